import PyProof.Rows.All
import HandS.ForMost
import HandS.Wide
import HandS.Gcd
import HandS.SortInts
import HandS.Flow
import HandS.Style
import HandS.Deep
import HandS.TupAny
import KE.KSortedM
import HandS.Steps
import HandS.Conv
import HandS.Defaults
import HandS.Head0
import HandS.Head1
import HandS.Head2
import HandS.HeadEnd
import HandS.HeadHook1
import HandS.HeadHook2
import HandS.ExcInit
import HandS.Codes
import KE.KExcSuper
import HandS.ExcField
import HandS.ExcIs
import HandS.ExcOwn
import KE.KExcIs
import HandS.Iter
import HandS.Zip
import KE.DataCmp
import PyProof.ReprLen
import PyProof.Rows.ReprOcc
import PySem.Challenge.RW_trunkweb_k65_bounds_under_fixings
import Wide.All
import OpenK.AllK
import Wide.FinOn
set_option Elab.async false
set_option linter.all false
/-! text DL0 -/
section
set_option maxRecDepth 100000
set_option maxHeartbeats 4000000
/-! the data layer, part 0: data, modes, what represents what -/
namespace DL
open PySem PySem.Spec PyProof.Rows L2

inductive DV where
  | non | bl (b : Bool) | int (i : Int) | str (x : Str)
  | tup (ds : List DV) | lst (ds : List DV)
  | dct (ks : List Key) (ds : List DV)
  | obj (c : Str) (ns : List Str) (ds : List DV)

abbrev EnvD := List (Option DV)
inductive Rs (α : Type) where
  | ok (a : α) | ex (c : Str) (d : DV) | stuck
@[reducible] def Rs.bind {α β : Type} (r : Rs α) (f : α → Rs β) : Rs β := match r with
  | .ok a => f a
  | .ex c d => .ex c d
  | .stuck => .stuck
inductive Out where
  | nx (ρ : EnvD) | rt (d : DV) (ρ : EnvD) | bk (ρ : EnvD) | ct (ρ : EnvD) | ex (c : Str) (d : DV) | stuck
theorem bind_ok {α β : Type} {r : Rs α} {f : α → Rs β} {b : β} (h : r.bind f = .ok b) : ∃ a, r = .ok a ∧ f a = .ok b := by
  cases r with
  | ok a => exact ⟨a, rfl, h⟩
  | ex c d => cases h
  | stuck => cases h

/-- modes: frozen, borrowed (ahead of the call), peeked, owned list or dict, tuple of .., owned object, peeked object -/
inductive Md where
  | fr | bo | sc | pk (m : Md) | own (m : Md) | tu (m : Md) | ob (m : Md) | po (m : Md)
  deriving DecidableEq
@[reducible] def Md.stor : Md → Bool
  | .fr => true
  | .bo => true
  | .sc => true
  | .pk _ => false
  | .own m => m.stor
  | .tu m => m.stor
  | .ob m => m.stor
  | .po _ => false
@[reducible] def Md.peek : Md → Md
  | .fr => .fr
  | .bo => .bo
  | .sc => .sc
  | .pk m => .pk m.peek
  | .own m => .pk m.peek
  | .tu m => .tu m.peek
  | .ob m => .po m.peek
  | .po m => .po m.peek
@[reducible] def Md.kid : Md → Md
  | .fr => .fr
  | .bo => .bo
  | .sc => .fr
  | .pk m => m
  | .own m => m
  | .tu m => m
  | .ob m => m
  | .po m => m
/-- is it data that DA reads -/
@[reducible] def Md.rd : Md → Bool
  | .fr => true
  | .bo => true
  | .sc => false
  | .pk m => m.rd
  | .own m => m.rd
  | .tu m => m.rd
  | .ob m => m.rd
  | .po m => m.rd
/-- no place of it is owned -/
@[reducible] def Md.free : Md → Bool
  | .fr => true
  | .bo => true
  | .sc => true
  | .pk m => m.free
  | .own _ => false
  | .tu m => m.free
  | .ob _ => false
  | .po m => m.free

structure Cxt where
  K : PySem.W.Frag
  mg : Str → Option Value
  Bp : Hp
  F0 : Hp
  io : List (Nat × V × Md)

mutual
def DA (K : PySem.W.Frag) (mg : Str → Option Value) (F : Hp) : DV → V → Prop
  | .non, v => v = .non
  | .bl b, v => v = .bl b
  | .int i, v => v = .int i
  | .str x, v => v = .str x
  | .tup ds, v => ∃ a vs, v = .ref a ∧ SqT K F a vs ∧ DAs K mg F ds vs
  | .lst ds, v => ∃ a vs, v = .ref a ∧ Rd F a (.lst vs) ∧ DAs K mg F ds vs
  | .dct ks ds, v => ∃ a vs, v = .ref a ∧ (F a = some (.dK (ks.zip vs)) ∧ ks.length = vs.length) ∧ DAs K mg F ds vs
  | .obj c ns ds, v => ∃ a vs, v = .ref a ∧ (∃ C dx, mg c = some (.ref C) ∧ F a = some (.ins C dx (ns.zip vs)) ∧ ns.length = vs.length) ∧ DAs K mg F ds vs
def DAs (K : PySem.W.Frag) (mg : Str → Option Value) (F : Hp) : List DV → List V → Prop
  | [], vs => vs = []
  | d :: ds, vs => ∃ v r, vs = v :: r ∧ DA K mg F d v ∧ DAs K mg F ds r
end

def kids : DV → List DV
  | .tup ds => ds
  | .lst ds => ds
  | .dct _ ds => ds
  | .obj _ _ ds => ds
  | _ => []
/-- the node of a list, a dict, an instance -/
def Node (mg : Str → Option Value) (d : DV) (vs : List V) (o : HO) : Prop := match d with
  | .lst _ => o = .lst vs
  | .dct ks _ => o = .dK (ks.zip vs) ∧ ks.length = vs.length
  | .obj c ns _ => ∃ C dx, mg c = some (.ref C) ∧ o = .ins C dx (ns.zip vs) ∧ ns.length = vs.length
  | _ => False
/-- such a node that is read -/
def RdNode (K : PySem.W.Frag) (mg : Str → Option Value) (H : Hp) (a : Addr) (d : DV) (vs : List V) : Prop := match d with
  | .lst _ => Rd H a (.lst vs)
  | .dct ks _ => H a = some (.dK (ks.zip vs)) ∧ ks.length = vs.length
  | .obj c ns _ => ∃ C dx, mg c = some (.ref C) ∧ H a = some (.ins C dx (ns.zip vs)) ∧ ns.length = vs.length
  | _ => False
def isLD : DV → Bool
  | .lst _ => true
  | .dct _ _ => true
  | _ => false
def isObj : DV → Bool
  | .obj _ _ _ => true
  | _ => false
def isTup : DV → Bool
  | .tup _ => true
  | _ => false
/-- is this data's node of the kind that this mode speaks of -/
def Md.on : Md → DV → Bool
  | .own _, d => isLD d
  | .pk _, d => isLD d
  | .tu _, d => isTup d
  | .ob _, d => isObj d
  | .po _, d => isObj d
  | _, _ => false

def Alls (R : DV → V → List Addr → Prop) : List DV → List V → List Addr → Prop
  | [], vs, fp => vs = [] ∧ fp = []
  | d :: ds, vs, fp => ∃ v r f1 f2, vs = v :: r ∧ fp = f1 ++ f2 ∧ R d v f1 ∧ Alls R ds r f2

/-- v stands for the data d in this mode; fp: the owned addresses -/
def At (C : Cxt) (F H : Hp) : Md → DV → V → List Addr → Prop
  | .fr, d, v, fp => fp = [] ∧ DA C.K C.mg F d v
  | .bo, d, v, fp => fp = [] ∧ DA C.K C.mg C.Bp d v
  | .sc, d, v, fp => fp = [] ∧ ∃ (a : Addr) (ns : List Int), v = .ref a ∧ d = .lst (ns.map DV.int) ∧ SqL C.K F a (ns.map V.int)
  | .pk m, d, v, fp => if isLD d = true then ∃ a vs, v = .ref a ∧ RdNode C.K C.mg H a d vs ∧ Alls (At C F H m) (kids d) vs fp else fp = [] ∧ DA C.K C.mg F d v
  | .po m, d, v, fp => if isObj d = true then ∃ a vs, v = .ref a ∧ RdNode C.K C.mg H a d vs ∧ Alls (At C F H m) (kids d) vs fp else fp = [] ∧ DA C.K C.mg F d v
  | .own m, d, v, fp => if isLD d = true then ∃ a vs o fc, v = .ref a ∧ F a = none ∧ C.Bp a = none ∧ H a = some o ∧ Node C.mg d vs o ∧ fp = a :: fc ∧ Alls (At C F H m) (kids d) vs fc else fp = [] ∧ DA C.K C.mg F d v
  | .ob m, d, v, fp => if isObj d = true then ∃ a vs o fc, v = .ref a ∧ F a = none ∧ C.Bp a = none ∧ H a = some o ∧ Node C.mg d vs o ∧ fp = a :: fc ∧ Alls (At C F H m) (kids d) vs fc else fp = [] ∧ DA C.K C.mg F d v
  | .tu m, d, v, fp => if isTup d = true then ∃ a vs, v = .ref a ∧ SqT C.K F a vs ∧ Alls (At C F H m) (kids d) vs fp else fp = [] ∧ DA C.K C.mg F d v

/-! ### heaps -/
theorem same_rd {H H' : Hp} {a : Addr} {u : HO} (e : Same H H') (h : Rd H a u) : Rd H' a u := by
  rcases h with h | ⟨o, h⟩
  · exact .inl (e _ _ h)
  · exact .inr ⟨o, e _ _ h⟩
theorem same_sqt {K : PySem.W.Frag} {H H' : Hp} {a : Addr} {xs : List V} (e : Same H H') (h : SqT K H a xs) : SqT K H' a xs := by
  rcases h with (h | ⟨o, h⟩) | h
  · exact .inl (.inl (e _ _ h))
  · exact .inl (.inr ⟨o, e _ _ h⟩)
  · exact .inr h
theorem same_upd {H : Hp} {p : Addr} {o : HO} (h : H p = none) : Same H (upd H p o) := fun b x e => by
  rw [upd_ne (ne_of_none e h)]
  exact e
theorem Same.none' {H H' : Hp} (e : Same H H') {a : Addr} (h : H' a = none) : H a = none := e.free h

/-! ### frozen data -/
section
variable {K : PySem.W.Frag} {mg : Str → Option Value} {F F' : Hp}
mutual
theorem DA.mono (e : Same F F') : ∀ (d : DV) (v : V), DA K mg F d v → DA K mg F' d v
  | .non, _, h => h
  | .bl _, _, h => h
  | .int _, _, h => h
  | .str _, _, h => h
  | .tup ds, _, ⟨a, vs, h1, h2, h3⟩ => ⟨a, vs, h1, same_sqt e h2, DAs.mono e ds vs h3⟩
  | .lst ds, _, ⟨a, vs, h1, h2, h3⟩ => ⟨a, vs, h1, same_rd e h2, DAs.mono e ds vs h3⟩
  | .dct _ ds, _, ⟨a, vs, h1, ⟨h2, h4⟩, h3⟩ => ⟨a, vs, h1, ⟨e _ _ h2, h4⟩, DAs.mono e ds vs h3⟩
  | .obj _ _ ds, _, ⟨a, vs, h1, ⟨C, dx, g, h2, h4⟩, h3⟩ => ⟨a, vs, h1, ⟨C, dx, g, e _ _ h2, h4⟩, DAs.mono e ds vs h3⟩
theorem DAs.mono (e : Same F F') : ∀ (ds : List DV) (vs : List V), DAs K mg F ds vs → DAs K mg F' ds vs
  | [], _, h => h
  | d :: ds, _, ⟨v, r, h1, h2, h3⟩ => ⟨v, r, h1, DA.mono e d v h2, DAs.mono e ds r h3⟩
end
theorem DAs.length : ∀ {ds : List DV} {vs : List V}, DAs K mg F ds vs → ds.length = vs.length
  | [], _, h => by cases h; rfl
  | d :: ds, _, ⟨v, r, h1, _, h3⟩ => by
    subst h1
    rw [List.length_cons, List.length_cons, DAs.length h3]
theorem DAs.get : ∀ {ds : List DV} {vs : List V} {i : Nat} {d : DV}, DAs K mg F ds vs → ds[i]? = some d → ∃ v, vs[i]? = some v ∧ DA K mg F d v
  | [], _, i, d, _, e => by simp at e
  | d :: ds, _, 0, _, ⟨v, r, h1, h2, _⟩, e => by
    subst h1
    simp at e
    subst e
    exact ⟨v, rfl, h2⟩
  | d :: ds, _, i + 1, _, ⟨v, r, h1, _, h3⟩, e => by
    subst h1
    exact DAs.get h3 (i := i) (by simpa using e)
end

/-! ### Alls -/
section
variable {R R' : DV → V → List Addr → Prop}
theorem Alls.length : ∀ {ds : List DV} {vs : List V} {fp : List Addr}, Alls R ds vs fp → ds.length = vs.length
  | [], _, _, h => by cases h.1; rfl
  | d :: ds, _, _, ⟨v, r, f1, f2, h1, _, _, h3⟩ => by
    subst h1
    rw [List.length_cons, List.length_cons, Alls.length h3]
theorem Alls.imp : ∀ {ds : List DV} {vs : List V} {fp : List Addr}, Alls R ds vs fp → (∀ d v f, (∀ a ∈ f, a ∈ fp) → R d v f → R' d v f) → Alls R' ds vs fp
  | [], _, _, h, _ => h
  | d :: ds, _, _, ⟨v, r, f1, f2, h1, h2, h3, h4⟩, k => ⟨v, r, f1, f2, h1, h2, k d v f1 (fun a ha => by rw [h2]; exact List.mem_append_left _ ha) h3,
      Alls.imp h4 fun d v f hf => k d v f fun a ha => by rw [h2]; exact List.mem_append_right _ (hf a ha)⟩
/-- footprints forgotten -/
theorem Alls.pt : ∀ {ds : List DV} {vs : List V} {fp : List Addr}, Alls R ds vs fp → (∀ d v f, R d v f → R' d v []) → Alls R' ds vs []
  | [], _, _, h, _ => ⟨h.1, rfl⟩
  | d :: ds, _, _, ⟨v, r, f1, f2, h1, h2, h3, h4⟩, k => ⟨v, r, [], [], h1, rfl, k d v f1 h3, Alls.pt h4 k⟩
theorem Alls.das {K : PySem.W.Frag} {mg : Str → Option Value} {F : Hp} : ∀ {ds : List DV} {vs : List V} {fp : List Addr}, Alls R ds vs fp → (∀ d v f, (∀ a ∈ f, a ∈ fp) → R d v f → DA K mg F d v) → DAs K mg F ds vs
  | [], _, _, h, _ => h.1
  | d :: ds, _, _, ⟨v, r, f1, f2, h1, h2, h3, h4⟩, k => ⟨v, r, h1, k d v f1 (fun a ha => by rw [h2]; exact List.mem_append_left _ ha) h3,
      Alls.das h4 fun d v f hf => k d v f fun a ha => by rw [h2]; exact List.mem_append_right _ (hf a ha)⟩
theorem Alls.of_das {K : PySem.W.Frag} {mg : Str → Option Value} {F : Hp} : ∀ {ds : List DV} {vs : List V}, DAs K mg F ds vs → (∀ d v, DA K mg F d v → R d v []) → Alls R ds vs []
  | [], _, h, _ => ⟨h, rfl⟩
  | d :: ds, _, ⟨v, r, h1, h2, h3⟩, k => ⟨v, r, [], [], h1, rfl, k d v h2, Alls.of_das h3 k⟩
theorem Alls.nil_fp : ∀ {ds : List DV} {vs : List V} {fp : List Addr}, Alls R ds vs fp → (∀ d v f, R d v f → f = []) → fp = []
  | [], _, _, h, _ => h.2
  | d :: ds, _, _, ⟨v, r, f1, f2, h1, h2, h3, h4⟩, k => by rw [h2, k d v f1 h3, Alls.nil_fp h4 k]; rfl
theorem Alls.get : ∀ {ds : List DV} {vs : List V} {fp : List Addr} {i : Nat} {d : DV}, Alls R ds vs fp → ds[i]? = some d → ∃ v f, vs[i]? = some v ∧ R d v f ∧ ∀ a ∈ f, a ∈ fp
  | [], _, _, i, d, _, e => by simp at e
  | d :: ds, _, _, 0, _, ⟨v, r, f1, f2, h1, h2, h3, _⟩, e => by
    subst h1
    simp at e
    subst e
    exact ⟨v, f1, rfl, h3, fun a ha => by rw [h2]; exact List.mem_append_left _ ha⟩
  | d :: ds, _, _, i + 1, _, ⟨v, r, f1, f2, h1, h2, _, h4⟩, e => by
    subst h1
    obtain ⟨w, f, e1, e2, e3⟩ := Alls.get h4 (i := i) (by simpa using e)
    exact ⟨w, f, by simpa using e1, e2, fun a ha => by rw [h2]; exact List.mem_append_right _ (e3 a ha)⟩
theorem Alls.append : ∀ {ds es : List DV} {vs ws : List V} {f g : List Addr}, Alls R ds vs f → Alls R es ws g → Alls R (ds ++ es) (vs ++ ws) (f ++ g)
  | [], _, _, _, _, _, h, k => by rw [h.1, h.2]; exact k
  | d :: ds, _, _, _, _, _, ⟨v, r, f1, f2, h1, h2, h3, h4⟩, k => ⟨v, _, f1, f2 ++ _, by rw [h1]; rfl, by rw [h2, List.append_assoc], h3, Alls.append h4 k⟩
theorem Alls.one {d : DV} {v : V} {f : List Addr} (h : R d v f) : Alls R [d] [v] f := ⟨v, [], f, [], rfl, by rw [List.append_nil], h, rfl, rfl⟩
end

/-! ### At -/
section
variable {C : Cxt} {F F' H H' : Hp}
theorem RdNode.mono {K : PySem.W.Frag} {mg : Str → Option Value} {a : Addr} {d : DV} {vs : List V} (e : Same H H') (h : RdNode K mg H a d vs) : RdNode K mg H' a d vs := by
  cases d with
  | lst ds => exact same_rd e h
  | dct ks ds => exact ⟨e _ _ h.1, h.2⟩
  | obj c ns ds => obtain ⟨C, dx, g, h1, h2⟩ := h; exact ⟨C, dx, g, e _ _ h1, h2⟩
  | _ => exact h
theorem Node.rd {K : PySem.W.Frag} {mg : Str → Option Value} {a : Addr} {d : DV} {vs : List V} {o : HO} (h : Node mg d vs o) (e : H a = some o) : RdNode K mg H a d vs := by
  cases d with
  | lst ds => obtain rfl : o = .lst vs := h; exact .inl e
  | dct ks ds => obtain ⟨rfl, l⟩ := h; exact ⟨e, l⟩
  | obj c ns ds => obtain ⟨C, dx, g, rfl, l⟩ := h; exact ⟨C, dx, g, e, l⟩
  | _ => exact h
theorem RdNode.da {K : PySem.W.Frag} {mg : Str → Option Value} {a : Addr} {d : DV} {vs : List V} (h : RdNode K mg H a d vs) (k : DAs K mg H (kids d) vs) : DA K mg H d (.ref a) := by
  cases d with
  | lst ds => exact ⟨a, vs, rfl, h, k⟩
  | dct ks ds => exact ⟨a, vs, rfl, h, k⟩
  | obj c ns ds => exact ⟨a, vs, rfl, h, k⟩
  | _ => exact h.elim

theorem At.mono : ∀ {m : Md} {d : DV} {v : V} {fp : List Addr}, At C F H m d v fp → Same F F' → (∀ a ∈ fp, F' a = none) → (∀ a ∈ fp, H' a = H a) → (m.stor = true ∨ Same H H') → At C F' H' m d v fp := by
  intro m
  induction m with
  | fr => intro d v fp h e _ _ _; exact ⟨h.1, DA.mono e _ _ h.2⟩
  | bo => intro d v fp h e _ _ _; exact h
  | sc => intro d v fp ⟨h, a, ns, h1, h2, h3⟩ e _ _ _; exact ⟨h, a, ns, h1, h2, e.seq h3⟩
  | pk m ih =>
    intro d v fp h e n k s
    have s : Same H H' := by
      rcases s with s | s
      · cases s
      · exact s
    unfold At at h ⊢
    split at h
    · rename_i q
      rw [if_pos q]
      obtain ⟨a, vs, h1, h2, h3⟩ := h
      exact ⟨a, vs, h1, h2.mono s, h3.imp fun d v f hf x => ih x e (fun a ha => n a (hf a ha)) (fun a ha => k a (hf a ha)) (.inr s)⟩
    · rename_i q
      rw [if_neg q]
      exact ⟨h.1, DA.mono e _ _ h.2⟩
  | po m ih =>
    intro d v fp h e n k s
    have s : Same H H' := by
      rcases s with s | s
      · cases s
      · exact s
    unfold At at h ⊢
    split at h
    · rename_i q
      rw [if_pos q]
      obtain ⟨a, vs, h1, h2, h3⟩ := h
      exact ⟨a, vs, h1, h2.mono s, h3.imp fun d v f hf x => ih x e (fun a ha => n a (hf a ha)) (fun a ha => k a (hf a ha)) (.inr s)⟩
    · rename_i q
      rw [if_neg q]
      exact ⟨h.1, DA.mono e _ _ h.2⟩
  | own m ih =>
    intro d v fp h e n k s
    unfold At at h ⊢
    split at h
    · rename_i q
      rw [if_pos q]
      obtain ⟨a, vs, o, fc, h1, h2, h3, h4, h5, h6, h7⟩ := h
      subst h6
      exact ⟨a, vs, o, fc, h1, n a List.mem_cons_self, h3, (k a List.mem_cons_self).trans h4, h5, rfl, h7.imp fun d v f hf x => ih x e (fun a ha => n a (List.mem_cons_of_mem _ (hf a ha))) (fun a ha => k a (List.mem_cons_of_mem _ (hf a ha))) s⟩
    · rename_i q
      rw [if_neg q]
      exact ⟨h.1, DA.mono e _ _ h.2⟩
  | ob m ih =>
    intro d v fp h e n k s
    unfold At at h ⊢
    split at h
    · rename_i q
      rw [if_pos q]
      obtain ⟨a, vs, o, fc, h1, h2, h3, h4, h5, h6, h7⟩ := h
      subst h6
      exact ⟨a, vs, o, fc, h1, n a List.mem_cons_self, h3, (k a List.mem_cons_self).trans h4, h5, rfl, h7.imp fun d v f hf x => ih x e (fun a ha => n a (List.mem_cons_of_mem _ (hf a ha))) (fun a ha => k a (List.mem_cons_of_mem _ (hf a ha))) s⟩
    · rename_i q
      rw [if_neg q]
      exact ⟨h.1, DA.mono e _ _ h.2⟩
  | tu m ih =>
    intro d v fp h e n k s
    unfold At at h ⊢
    split at h
    · rename_i q
      rw [if_pos q]
      obtain ⟨a, vs, h1, h2, h3⟩ := h
      exact ⟨a, vs, h1, same_sqt e h2, h3.imp fun d v f hf x => ih x e (fun a ha => n a (hf a ha)) (fun a ha => k a (hf a ha)) s⟩
    · rename_i q
      rw [if_neg q]
      exact ⟨h.1, DA.mono e _ _ h.2⟩

/-- what it stands for, read at H -/
theorem At.da (s : Same F H) (b : Same C.Bp H) : ∀ {m : Md} {d : DV} {v : V} {fp : List Addr}, m.rd = true → At C F H m d v fp → DA C.K C.mg H d v := by
  intro m
  induction m with
  | fr => intro d v fp _ h; exact DA.mono s _ _ h.2
  | bo => intro d v fp _ h; exact DA.mono b _ _ h.2
  | sc => intro d v fp q; cases q
  | pk m ih | po m ih =>
    intro d v fp q h
    unfold At at h
    split at h
    · obtain ⟨a, vs, rfl, h2, h3⟩ := h
      exact h2.da (h3.das fun d v f _ x => ih q x)
    · exact DA.mono s _ _ h.2
  | own m ih | ob m ih =>
    intro d v fp q h
    unfold At at h
    split at h
    · obtain ⟨a, vs, o, fc, rfl, h2, h3, h4, h5, h6, h7⟩ := h
      exact (h5.rd h4).da (h7.das fun d v f _ x => ih q x)
    · exact DA.mono s _ _ h.2
  | tu m ih =>
    intro d v fp q0 h
    unfold At at h
    split at h
    · rename_i q
      cases d with
      | tup ds =>
        obtain ⟨a, vs, rfl, h2, h3⟩ := h
        exact ⟨a, vs, rfl, same_sqt s h2, h3.das fun d v f _ x => ih q0 x⟩
      | _ => cases q
    · exact DA.mono s _ _ h.2
theorem At.free_nil : ∀ {m : Md} {d : DV} {v : V} {fp : List Addr}, m.free = true → At C F H m d v fp → fp = [] := by
  intro m
  induction m with
  | fr => intro d v fp _ h; exact h.1
  | bo => intro d v fp _ h; exact h.1
  | sc => intro d v fp _ h; exact h.1
  | pk m ih | po m ih | tu m ih =>
    intro d v fp q h
    unfold At at h
    split at h
    · obtain ⟨a, vs, _, _, h3⟩ := h
      exact h3.nil_fp fun d v f x => ih q x
    · exact h.1
  | own m ih | ob m ih => intro d v fp q; cases q
theorem At.peek : ∀ {m : Md} {d : DV} {v : V} {fp : List Addr}, At C F H m d v fp → At C F H m.peek d v [] := by
  intro m
  induction m with
  | fr => intro d v fp h; exact ⟨rfl, h.2⟩
  | bo => intro d v fp h; exact ⟨rfl, h.2⟩
  | sc => intro d v fp h; exact ⟨rfl, h.2⟩
  | pk m ih | po m ih | tu m ih =>
    intro d v fp h
    unfold At at h
    unfold Md.peek At
    split at h
    · rename_i q
      rw [if_pos q]
      obtain ⟨a, vs, h1, h2, h3⟩ := h
      exact ⟨a, vs, h1, h2, h3.pt fun d v f x => ih x⟩
    · rename_i q
      rw [if_neg q]
      exact ⟨rfl, h.2⟩
  | own m ih | ob m ih =>
    intro d v fp h
    unfold At at h
    unfold Md.peek At
    split at h
    · rename_i q
      rw [if_pos q]
      obtain ⟨a, vs, o, fc, h1, h2, h3, h4, h5, h6, h7⟩ := h
      exact ⟨a, vs, h1, h5.rd h4, h7.pt fun d v f x => ih x⟩
    · rename_i q
      rw [if_neg q]
      exact ⟨rfl, h.2⟩
end
end DL
end

/-! text DL1 -/
section
set_option maxRecDepth 100000
set_option maxHeartbeats 4000000
/-! the data layer, part 1: the state and what a reading simulates -/
namespace DL
open PySem PySem.Spec PyProof.Rows L2

abbrev Ent := Md × DV × V
def SlotAt (C : Cxt) (F H : Hp) (m : Md) (s : Option V) (r : Option DV) (f : List Addr) : Prop := match r with
  | none => f = []
  | some d => ∃ v, s = some v ∧ At C F H m d v f
def Slots (C : Cxt) (F H : Hp) : List Md → L2.St → EnvD → List Addr → Prop
  | [], [], [], fp => fp = []
  | m :: Γ, s :: σ, r :: ρ, fp => ∃ f1 f2, fp = f1 ++ f2 ∧ SlotAt C F H m s r f1 ∧ Slots C F H Γ σ ρ f2
  | _, _, _, _ => False
def Exs (C : Cxt) (F H : Hp) : List Ent → List Addr → Prop
  | [], fp => fp = []
  | (m, d, v) :: L, fp => ∃ f1 f2, fp = f1 ++ f2 ∧ At C F H m d v f1 ∧ Exs C F H L f2

/-- a tuple, locked or not -/
def tupO : HO → Bool
  | .tup _ => true
  | .frz _ (.tup _) => true
  | _ => false
structure Fit (C : Cxt) (F H : Hp) : Prop where
  ff : Same C.F0 F
  fh : Same F H
  bh : Same C.Bp H
  f0 : ∀ a, F a ≠ none → C.F0 a ≠ none ∨ C.Bp a = none ∨ ∃ o, C.Bp a = some o ∧ tupO o = true
  tp : ∀ a o, H a = some o → tupO o = true → F a = some o
structure Rep (C : Cxt) (F H : Hp) (Γ : List Md) (σ : L2.St) (ρ : EnvD) (L : List Ent) : Prop where
  fit : Fit C F H
  io : ∀ p ∈ C.io, σ[p.1]? = some (some p.2.1) ∧ Γ[p.1]? = some p.2.2
  own : ∃ f1 f2, (f1 ++ f2).Nodup ∧ Slots C F H Γ σ ρ f1 ∧ Exs C F H L f2

section
variable {C : Cxt} {F F' H H' : Hp} {Γ Γ' : List Md} {σ σ' : L2.St} {ρ ρ' : EnvD} {L L' : List Ent} {m m' : Md} {d : DV} {v : V} {fp : List Addr}

/-- something else than a tuple is laid -/
theorem Fit.alloc (e : Fit C F H) (s : Same H H') (nt : ∀ a o, H' a = some o → tupO o = true → H a = some o) : Fit C F H' := ⟨e.ff, e.fh.trans s, e.bh.trans s, e.f0, fun a o h q => e.tp a o (nt a o h q) q⟩
/-- tuples that H holds are frozen -/
def allT (F H : Hp) : Hp := fun a => match H a with
  | some o => if tupO o = true then some o else F a
  | none => F a
theorem allT_same (s : Same F H) : Same F (allT F H) := fun a o e => by
  have h := s a o e
  unfold allT
  rw [h]
  show (if tupO o = true then some o else F a) = some o
  split
  · rfl
  · exact e
theorem allT_le (s : Same F H) : Same (allT F H) H := fun a o e => by
  unfold allT at e
  split at e
  · rename_i u h
    split at e
    · rw [h]; exact e
    · exact s a o e
  · exact s a o e
theorem allT_tp {a : Addr} {o : HO} (h : H a = some o) (q : tupO o = true) : allT F H a = some o := by
  unfold allT
  rw [h]
  exact if_pos q
theorem allT_out {a : Addr} (h : ∀ o, H a = some o → tupO o = false) : allT F H a = F a := by
  unfold allT
  split
  · rename_i o e
    rw [h o e]
    rfl
  · rfl

theorem Slots.mono : ∀ {Γ : List Md} {σ : L2.St} {ρ : EnvD} {fp : List Addr}, Slots C F H Γ σ ρ fp → Same F F' → (∀ a ∈ fp, F' a = none) → (∀ a ∈ fp, H' a = H a) → (Γ.all Md.stor = true ∨ Same H H') → Slots C F' H' Γ σ ρ fp
  | [], [], [], _, h, _, _, _, _ => h
  | m :: Γ, s :: σ, r :: ρ, _, ⟨f1, f2, h1, h2, h3⟩, e, n, k, z => by
    subst h1
    have z1 : m.stor = true ∨ Same H H' := z.imp_left fun z => (Bool.and_eq_true _ _ ▸ (show (m.stor && Γ.all Md.stor) = true from z)).1
    have z2 : Γ.all Md.stor = true ∨ Same H H' := z.imp_left fun z => (Bool.and_eq_true _ _ ▸ (show (m.stor && Γ.all Md.stor) = true from z)).2
    refine ⟨f1, f2, rfl, ?_, Slots.mono h3 e (fun a ha => n a (List.mem_append_right _ ha)) (fun a ha => k a (List.mem_append_right _ ha)) z2⟩
    cases r with
    | none => exact h2
    | some d =>
      obtain ⟨v, h4, h5⟩ := h2
      exact ⟨v, h4, h5.mono e (fun a ha => n a (List.mem_append_left _ ha)) (fun a ha => k a (List.mem_append_left _ ha)) z1⟩
theorem Exs.mono : ∀ {L : List Ent} {fp : List Addr}, Exs C F H L fp → Same F F' → (∀ a ∈ fp, F' a = none) → (∀ a ∈ fp, H' a = H a) → (L.all (fun e => e.1.stor) = true ∨ Same H H') → Exs C F' H' L fp
  | [], _, h, _, _, _, _ => h
  | (m, d, v) :: L, _, ⟨f1, f2, h1, h2, h3⟩, e, n, k, z => by
    subst h1
    have z1 : m.stor = true ∨ Same H H' := z.imp_left fun z => (Bool.and_eq_true _ _ ▸ (show (m.stor && L.all fun e => e.1.stor) = true from z)).1
    have z2 : (L.all fun e => e.1.stor) = true ∨ Same H H' := z.imp_left fun z => (Bool.and_eq_true _ _ ▸ (show (m.stor && L.all fun e => e.1.stor) = true from z)).2
    exact ⟨f1, f2, rfl, h2.mono e (fun a ha => n a (List.mem_append_left _ ha)) (fun a ha => k a (List.mem_append_left _ ha)) z1, Exs.mono h3 e (fun a ha => n a (List.mem_append_right _ ha)) (fun a ha => k a (List.mem_append_right _ ha)) z2⟩
/-- owned addresses are there, and neither frozen nor of before -/
theorem Alls.each {R : DV → V → List Addr → Prop} {P : Addr → Prop} : ∀ {ds : List DV} {vs : List V} {fp : List Addr}, Alls R ds vs fp → (∀ d v f, R d v f → ∀ a ∈ f, P a) → ∀ a ∈ fp, P a
  | [], _, _, h, _, a, ha => by rw [h.2] at ha; cases ha
  | d :: ds, _, _, ⟨v, r, f1, f2, h1, h2, h3, h4⟩, k, a, ha => by
    rw [h2] at ha
    rcases List.mem_append.mp ha with ha | ha
    · exact k d v f1 h3 a ha
    · exact Alls.each h4 k a ha
def Owned (C : Cxt) (F H : Hp) (a : Addr) : Prop := F a = none ∧ C.Bp a = none ∧ ∃ o, H a = some o ∧ Mut (some o)
theorem Node.mut {mg : Str → Option Value} {d : DV} {vs : List V} {o : HO} (h : Node mg d vs o) : Mut (some o) := by
  cases d with
  | lst ds => obtain rfl : o = .lst vs := h; trivial
  | dct ks ds => obtain ⟨rfl, _⟩ := h; trivial
  | obj c ns ds => obtain ⟨C, dx, _, rfl, _⟩ := h; trivial
  | _ => exact h.elim
theorem At.owned : ∀ {m : Md} {d : DV} {v : V} {fp : List Addr}, At C F H m d v fp → ∀ a ∈ fp, Owned C F H a := by
  intro m
  induction m with
  | fr => intro d v fp h a ha; rw [h.1] at ha; cases ha
  | bo => intro d v fp h a ha; rw [h.1] at ha; cases ha
  | sc => intro d v fp h a ha; rw [h.1] at ha; cases ha
  | pk m ih | po m ih | tu m ih =>
    intro d v fp h
    unfold At at h
    split at h
    · obtain ⟨a, vs, _, _, h3⟩ := h
      exact h3.each fun d v f x => ih x
    · intro a ha; rw [h.1] at ha; cases ha
  | own m ih | ob m ih =>
    intro d v fp h
    unfold At at h
    split at h
    · obtain ⟨a, vs, o, fc, h1, h2, h3, h4, h5, h6, h7⟩ := h
      intro b hb
      rw [h6] at hb
      rcases List.mem_cons.mp hb with hb | hb
      · rw [hb]; exact ⟨h2, h3, o, h4, h5.mut⟩
      · exact h7.each (fun d v f x => ih x) b hb
    · intro a ha; rw [h.1] at ha; cases ha
theorem Slots.owned : ∀ {Γ : List Md} {σ : L2.St} {ρ : EnvD} {fp : List Addr}, Slots C F H Γ σ ρ fp → ∀ a ∈ fp, Owned C F H a
  | [], [], [], _, h, a, ha => by rw [show _ = _ from h] at ha; cases ha
  | m :: Γ, s :: σ, r :: ρ, _, ⟨f1, f2, h1, h2, h3⟩, a, ha => by
    subst h1
    rcases List.mem_append.mp ha with ha | ha
    · cases r with
      | none => rw [show f1 = [] from h2] at ha; cases ha
      | some d => obtain ⟨v, _, h5⟩ := h2; exact h5.owned a ha
    · exact Slots.owned h3 a ha
theorem Exs.owned : ∀ {L : List Ent} {fp : List Addr}, Exs C F H L fp → ∀ a ∈ fp, Owned C F H a
  | [], _, h, a, ha => by rw [show _ = _ from h] at ha; cases ha
  | (m, d, v) :: L, _, ⟨f1, f2, h1, h2, h3⟩, a, ha => by
    subst h1
    rcases List.mem_append.mp ha with ha | ha
    · exact h2.owned a ha
    · exact Exs.owned h3 a ha

/-- new objects laid -/
theorem Rep.alloc (r : Rep C F H Γ σ ρ L) (s : Same H H') (nt : ∀ a o, H' a = some o → tupO o = true → H a = some o) : Rep C F H' Γ σ ρ L := by
  obtain ⟨f1, f2, nd, a, b⟩ := r.own
  have oa := a.owned
  have ob := b.owned
  refine ⟨r.fit.alloc s nt, r.io, f1, f2, nd, a.mono (Same.refl _) (fun x hx => (oa x hx).1) (fun x hx => ?_) (.inr s), b.mono (Same.refl _) (fun x hx => (ob x hx).1) (fun x hx => ?_) (.inr s)⟩
  · obtain ⟨_, _, o, e, _⟩ := oa x hx
    rw [e]; exact s _ _ e
  · obtain ⟨_, _, o, e, _⟩ := ob x hx
    rw [e]; exact s _ _ e
/-- an entry with nothing owned comes -/
theorem Rep.cons0 (r : Rep C F H Γ σ ρ L) (h : At C F H m d v []) : Rep C F H Γ σ ρ ((m, d, v) :: L) := by
  obtain ⟨f1, f2, nd, a, b⟩ := r.own
  exact ⟨r.fit, r.io, f1, f2, nd, a, [], f2, rfl, h, b⟩
/-- the first entry goes -/
theorem Rep.tail {e : Ent} (r : Rep C F H Γ σ ρ (e :: L)) : Rep C F H Γ σ ρ L := by
  obtain ⟨f1, f2, nd, a, g1, g2, h1, h2, h3⟩ := r.own
  subst h1
  refine ⟨r.fit, r.io, f1, g2, ?_, a, h3⟩
  exact nd.sublist (List.Sublist.append (List.Sublist.refl _) (List.sublist_append_right _ _))
theorem Rep.head (r : Rep C F H Γ σ ρ ((m, d, v) :: L)) : ∃ f, At C F H m d v f := by
  obtain ⟨f1, f2, nd, a, g1, g2, h1, h2, h3⟩ := r.own
  exact ⟨g1, h2⟩
theorem Rep.da (r : Rep C F H Γ σ ρ ((m, d, v) :: L)) (q : m.rd = true) : DA C.K C.mg H d v := by
  obtain ⟨f, h⟩ := r.head
  exact h.da r.fit.fh r.fit.bh q
theorem Rep.fr (r : Rep C F H Γ σ ρ ((.fr, d, v) :: L)) : DA C.K C.mg F d v := by
  obtain ⟨f, h⟩ := r.head
  exact h.2
theorem Rep.free (r : Rep C F H Γ σ ρ ((m, d, v) :: L)) (q : m.free = true) : At C F H m d v [] := by
  obtain ⟨f, h⟩ := r.head
  have e := h.free_nil q
  rw [e] at h
  exact h
/-- the first entry is owned from here on in another mode (or less) -/
theorem Rep.turn (r : Rep C F H Γ σ ρ ((m, d, v) :: L)) (h : ∀ f, At C F H m d v f → ∃ g, g.Sublist f ∧ At C F H m' d v g) : Rep C F H Γ σ ρ ((m', d, v) :: L) := by
  obtain ⟨f1, f2, nd, a, g1, g2, h1, h2, h3⟩ := r.own
  subst h1
  obtain ⟨g, s, h4⟩ := h _ h2
  exact ⟨r.fit, r.io, f1, g ++ g2, nd.sublist (List.Sublist.append (List.Sublist.refl _) (List.Sublist.append s (List.Sublist.refl _))), a, g, g2, rfl, h4, h3⟩
theorem Rep.peek (r : Rep C F H Γ σ ρ ((m, d, v) :: L)) : Rep C F H Γ σ ρ ((m.peek, d, v) :: L) := r.turn fun f h => ⟨[], List.nil_sublist _, h.peek⟩
theorem Rep.swap {a b : Ent} (r : Rep C F H Γ σ ρ (a :: b :: L)) : Rep C F H Γ σ ρ (b :: a :: L) := by
  obtain ⟨f1, f2, nd, s, g1, g2, h1, h2, g3, g4, h3, h4, h5⟩ := r.own
  subst h1
  subst h3
  refine ⟨r.fit, r.io, f1, g3 ++ (g1 ++ g4), ?_, s, g3, g1 ++ g4, rfl, h4, g1, g4, rfl, h2, h5⟩
  refine List.Perm.nodup (l := f1 ++ (g1 ++ (g3 ++ g4))) ?_ nd
  refine List.Perm.append (List.Perm.refl _) ?_
  rw [← List.append_assoc, ← List.append_assoc]
  exact List.Perm.append List.perm_append_comm (List.Perm.refl _)

/-! ### slots -/
theorem Slots.get : ∀ {Γ : List Md} {σ : L2.St} {ρ : EnvD} {fp : List Addr} {i : Nat} {m : Md} {d : DV}, Slots C F H Γ σ ρ fp → Γ[i]? = some m → ρ[i]? = some (some d) → ∃ v f, σ[i]? = some (some v) ∧ At C F H m d v f
  | [], [], [], _, i, _, _, _, h, _ => by simp at h
  | m :: Γ, s :: σ, r :: ρ, _, 0, m', d, ⟨f1, f2, h1, h2, h3⟩, e1, e2 => by
    simp at e1 e2
    subst e1
    subst e2
    obtain ⟨v, h4, h5⟩ := h2
    exact ⟨v, f1, by rw [h4]; rfl, h5⟩
  | m :: Γ, s :: σ, r :: ρ, _, i + 1, m', d, ⟨f1, f2, h1, h2, h3⟩, e1, e2 => by
    obtain ⟨v, f, h4, h5⟩ := Slots.get h3 (i := i) (by simpa using e1) (by simpa using e2)
    exact ⟨v, f, by simpa using h4, h5⟩
theorem Rep.get {i : Nat} (r : Rep C F H Γ σ ρ L) (e1 : Γ[i]? = some m) (e2 : ρ[i]? = some (some d)) : ∃ v f, σ[i]? = some (some v) ∧ At C F H m d v f := by
  obtain ⟨f1, f2, nd, a, b⟩ := r.own
  exact a.get e1 e2
/-- the slot i gets the entry, its old one is dropped -/
theorem Slots.put {m : Md} {d : DV} {v : V} {g : List Addr} (hg : At C F H m d v g) : ∀ {Γ : List Md} {σ : L2.St} {ρ : EnvD} {fp : List Addr} {i : Nat}, Slots C F H Γ σ ρ fp → i < Γ.length →
    ∃ x y z, fp = x ++ (y ++ z) ∧ Slots C F H (Γ.set i m) (σ.set i (some v)) (ρ.set i (some d)) (x ++ (g ++ z))
  | [], [], [], _, i, h, l => by simp at l
  | m1 :: Γ, s :: σ, r :: ρ, _, 0, ⟨f1, f2, h1, h2, h3⟩, _ => ⟨[], f1, f2, h1, g, f2, rfl, ⟨v, rfl, hg⟩, h3⟩
  | m1 :: Γ, s :: σ, r :: ρ, _, i + 1, ⟨f1, f2, h1, h2, h3⟩, l => by
    obtain ⟨x, y, z, h4, h5⟩ := Slots.put hg (i := i) h3 (by simpa using l)
    exact ⟨f1 ++ x, y, z, by rw [h1, h4, List.append_assoc], f1, x ++ (g ++ z), by rw [List.append_assoc], h2, h5⟩
theorem Slots.len : ∀ {Γ : List Md} {σ : L2.St} {ρ : EnvD} {fp : List Addr}, Slots C F H Γ σ ρ fp → σ.length = Γ.length ∧ ρ.length = Γ.length
  | [], [], [], _, _ => ⟨rfl, rfl⟩
  | m :: Γ, s :: σ, r :: ρ, _, ⟨f1, f2, h1, h2, h3⟩ => by
    obtain ⟨a, b⟩ := Slots.len h3
    exact ⟨by rw [List.length_cons, List.length_cons, a], by rw [List.length_cons, List.length_cons, b]⟩
theorem perm3 {α : Type} (a b c d e : List α) : List.Perm ((a ++ (b ++ c)) ++ (d ++ e)) (b ++ ((a ++ (d ++ c)) ++ e)) := by
  have h1 : List.Perm (a ++ (b ++ c)) (b ++ (a ++ c)) := by
    rw [← List.append_assoc, ← List.append_assoc]
    exact List.Perm.append List.perm_append_comm (List.Perm.refl _)
  have h2 : List.Perm ((a ++ c) ++ d) (a ++ (d ++ c)) := by
    rw [List.append_assoc]
    exact List.Perm.append (List.Perm.refl _) List.perm_append_comm
  have h3 := List.Perm.append h1 (List.Perm.refl (d ++ e))
  refine h3.trans ?_
  rw [List.append_assoc b]
  refine List.Perm.append (List.Perm.refl _) ?_
  rw [← List.append_assoc]
  exact List.Perm.append h2 (List.Perm.refl _)
theorem Rep.put {i : Nat} (r : Rep C F H Γ σ ρ ((m, d, v) :: L)) (l : i < Γ.length) (hio : ∀ p ∈ C.io, p.1 ≠ i) : Rep C F H (Γ.set i m) (σ.set i (some v)) (ρ.set i (some d)) L := by
  obtain ⟨f1, f2, nd, a, g1, g2, h1, h2, h3⟩ := r.own
  subst h1
  obtain ⟨x, y, z, h4, h5⟩ := a.put h2 l
  subst h4
  refine ⟨r.fit, fun p hp => ?_, x ++ (g1 ++ z), g2, ?_, h5, h3⟩
  · rw [List.getElem?_set_ne (Ne.symm (hio p hp)), List.getElem?_set_ne (Ne.symm (hio p hp))]
    exact r.io p hp
  · exact (((perm3 x y z g1 g2).nodup nd)).sublist (List.sublist_append_right _ _)
/-- the slot is forgotten -/
theorem Slots.drop : ∀ {Γ : List Md} {σ : L2.St} {ρ : EnvD} {fp : List Addr} {i : Nat} (s : Option V), Slots C F H Γ σ ρ fp → ∃ x y z, fp = x ++ (y ++ z) ∧ Slots C F H Γ (σ.set i s) (ρ.set i none) (x ++ z)
  | [], [], [], _, i, s, h => ⟨[], [], [], h, rfl⟩
  | m1 :: Γ, s1 :: σ, r :: ρ, _, 0, s, ⟨f1, f2, h1, h2, h3⟩ => ⟨[], f1, f2, h1, [], f2, rfl, rfl, h3⟩
  | m1 :: Γ, s1 :: σ, r :: ρ, _, i + 1, s, ⟨f1, f2, h1, h2, h3⟩ => by
    obtain ⟨x, y, z, h4, h5⟩ := Slots.drop (i := i) s h3
    exact ⟨f1 ++ x, y, z, by rw [h1, h4, List.append_assoc], f1, x ++ z, by rw [List.append_assoc], h2, h5⟩

/-! ### freezing -/
def frz (fp : List Addr) (F H : Hp) : Hp := fun a => if a ∈ fp then H a else F a
theorem frz_same (n : ∀ a ∈ fp, F a = none) : Same F (frz fp F H) := fun a o e => by
  unfold frz
  split
  · rename_i h
    rw [n a h] at e
    cases e
  · exact e
theorem frz_le (s : Same F H) : Same (frz fp F H) H := fun a o e => by
  unfold frz at e
  split at e
  · exact e
  · exact s _ _ e
theorem frz_out {a : Addr} (h : a ∉ fp) : frz fp F H a = F a := by
  unfold frz
  rw [if_neg h]
/-- may it be frozen -/
@[reducible] def _root_.DL.Md.fz : Md → Bool
  | .fr => true
  | .own m => m.fz
  | .tu m => m.fz
  | .ob m => m.fz
  | _ => false
theorem At.frz : ∀ {m : Md} {d : DV} {v : V} {fp : List Addr}, m.fz = true → At C F H m d v fp → Same F F' → (∀ a ∈ fp, F' a = H a) → DA C.K C.mg F' d v := by
  intro m
  induction m with
  | fr => intro d v fp _ h e _; exact DA.mono e _ _ h.2
  | bo => intro d v fp q; cases q
  | sc => intro d v fp q; cases q
  | pk m ih | po m ih => intro d v fp q; cases q
  | tu m ih =>
    intro d v fp q h e k
    unfold At at h
    split at h
    · rename_i z
      cases d with
      | tup ds =>
        obtain ⟨a, vs, rfl, h2, h3⟩ := h
        exact ⟨a, vs, rfl, same_sqt e h2, h3.das fun d v f hf x => ih q x e fun a ha => k a (hf a ha)⟩
      | _ => cases z
    · exact DA.mono e _ _ h.2
  | own m ih | ob m ih =>
    intro d v fp q h e k
    unfold At at h
    split at h
    · obtain ⟨a, vs, o, fc, rfl, h2, h3, h4, h5, h6, h7⟩ := h
      subst h6
      exact (h5.rd ((k a List.mem_cons_self).trans h4)).da (h7.das fun d v f hf x => ih q x e fun a ha => k a (List.mem_cons_of_mem _ (hf a ha)))
    · exact DA.mono e _ _ h.2
theorem Rep.freeze (r : Rep C F H Γ σ ρ ((m, d, v) :: L)) (q : m.fz = true) : ∃ F', Same F F' ∧ Rep C F' H Γ σ ρ ((.fr, d, v) :: L) := by
  obtain ⟨f1, f2, nd, a, g1, g2, h1, h2, h3⟩ := r.own
  subst h1
  have o2 := h2.owned
  have s1 : Same F (DL.frz g1 F H) := frz_same fun a ha => (o2 a ha).1
  have nd2 := List.nodup_append.mp nd
  have nd3 := List.nodup_append.mp nd2.2.1
  have d1 : ∀ x ∈ f1, x ∉ g1 := fun x hx hy => nd2.2.2 x hx x (List.mem_append_left _ hy) rfl
  have d2 : ∀ x ∈ g2, x ∉ g1 := fun x hx hy => nd3.2.2 x hy x hx rfl
  refine ⟨DL.frz g1 F H, s1, ⟨r.fit.ff.trans s1, frz_le r.fit.fh, r.fit.bh, fun x hx => ?_, fun x o hx q => s1 _ _ (r.fit.tp x o hx q)⟩, r.io, f1, g2, ?_, ?_, [], g2, rfl, ⟨rfl, ?_⟩, ?_⟩
  · by_cases hm : x ∈ g1
    · exact .inr (.inl (o2 x hm).2.1)
    · rw [frz_out hm] at hx
      exact r.fit.f0 x hx
  · exact nd.sublist (List.Sublist.append (List.Sublist.refl _) (List.sublist_append_right _ _))
  · exact a.mono s1 (fun x hx => by rw [frz_out (d1 x hx)]; exact (a.owned x hx).1) (fun _ _ => rfl) (.inr (Same.refl _))
  · exact h2.frz q s1 fun x hx => by unfold DL.frz; rw [if_pos hx]
  · exact h3.mono s1 (fun x hx => by rw [frz_out (d2 x hx)]; exact (h3.owned x hx).1) (fun _ _ => rfl) (.inr (Same.refl _))

/-! ### a slot's entry taken out, laid back -/
theorem Slots.take : ∀ {Γ : List Md} {σ : L2.St} {ρ : EnvD} {fp : List Addr} {i : Nat} {m : Md} {d : DV}, Slots C F H Γ σ ρ fp → Γ[i]? = some m → ρ[i]? = some (some d) →
    ∃ v x y z, σ[i]? = some (some v) ∧ fp = x ++ (y ++ z) ∧ At C F H m d v y ∧ Slots C F H Γ σ (ρ.set i none) (x ++ z)
  | [], [], [], _, i, _, _, _, h, _ => by simp at h
  | m1 :: Γ, s :: σ, r :: ρ, _, 0, m', d, ⟨f1, f2, h1, h2, h3⟩, e1, e2 => by
    simp at e1 e2
    subst e1
    subst e2
    obtain ⟨v, h4, h5⟩ := h2
    exact ⟨v, [], f1, f2, by rw [h4]; rfl, h1, h5, [], f2, rfl, rfl, h3⟩
  | m1 :: Γ, s :: σ, r :: ρ, _, i + 1, m', d, ⟨f1, f2, h1, h2, h3⟩, e1, e2 => by
    obtain ⟨v, x, y, z, h4, h5, h6, h7⟩ := Slots.take h3 (i := i) (by simpa using e1) (by simpa using e2)
    exact ⟨v, f1 ++ x, y, z, by simpa using h4, by rw [h1, h5, List.append_assoc], h6, f1, x ++ z, by rw [List.append_assoc], h2, h7⟩
theorem Rep.take {i : Nat} (r : Rep C F H Γ σ ρ L) (e1 : Γ[i]? = some m) (e2 : ρ[i]? = some (some d)) : ∃ v, σ[i]? = some (some v) ∧ Rep C F H Γ σ (ρ.set i none) ((m, d, v) :: L) := by
  obtain ⟨f1, f2, nd, a, b⟩ := r.own
  obtain ⟨v, x, y, z, h1, h2, h3, h4⟩ := a.take e1 e2
  subst h2
  refine ⟨v, h1, r.fit, r.io, x ++ z, y ++ f2, ?_, h4, y, f2, rfl, h3, b⟩
  refine List.Perm.nodup (l := (x ++ (y ++ z)) ++ f2) ?_ nd
  rw [List.append_assoc, List.append_assoc, List.append_assoc]
  refine List.Perm.append (List.Perm.refl _) ?_
  rw [← List.append_assoc, ← List.append_assoc]
  exact List.Perm.append List.perm_append_comm (List.Perm.refl _)
theorem set_id {α : Type} : ∀ {l : List α} {i : Nat} {x : α}, l[i]? = some x → l.set i x = l
  | [], _, _, _ => rfl
  | a :: l, 0, x, h => by simp at h; rw [h]; rfl
  | a :: l, i + 1, x, h => by
    rw [List.set_cons_succ, set_id (by simpa using h)]
theorem Rep.back {i : Nat} (r : Rep C F H Γ σ ρ ((m, d, v) :: L)) (e : σ[i]? = some (some v)) (hio : Γ[i]? = some m ∨ ∀ p ∈ C.io, p.1 ≠ i) : Rep C F H (Γ.set i m) σ (ρ.set i (some d)) L := by
  obtain ⟨f1, f2, nd, a, g1, g2, h1, h2, h3⟩ := r.own
  subst h1
  have l : i < Γ.length := by
    rw [← a.len.1]
    exact (List.getElem?_eq_some_iff.mp e).1
  obtain ⟨x, y, z, h4, h5⟩ := a.put h2 l
  subst h4
  rw [set_id e] at h5
  have io : ∀ p ∈ C.io, σ[p.1]? = some (some p.2.1) ∧ (Γ.set i m)[p.1]? = some p.2.2 := fun p hp => by
    refine ⟨(r.io p hp).1, ?_⟩
    rcases hio with q | q
    · rw [set_id q]; exact (r.io p hp).2
    · rw [List.getElem?_set_ne (Ne.symm (q p hp))]; exact (r.io p hp).2
  exact ⟨r.fit, io, x ++ (g1 ++ z), g2, (((perm3 x y z g1 g2).nodup nd)).sublist (List.sublist_append_right _ _), h5, h3⟩
theorem set_set' {α : Type} : ∀ {l : List α} {i : Nat} {x y : α}, (l.set i x).set i y = l.set i y
  | [], _, _, _ => rfl
  | a :: l, 0, x, y => rfl
  | a :: l, i + 1, x, y => by
    show a :: ((l.set i x).set i y) = a :: l.set i y
    rw [set_set']
/-- the slot i is frozen, and its data come as an entry -/
theorem Rep.share {i : Nat} (r : Rep C F H Γ σ ρ L) (e1 : Γ[i]? = some m) (e2 : ρ[i]? = some (some d)) (q : m.fz = true) (hio : ∀ p ∈ C.io, p.1 ≠ i) : ∃ v F', σ[i]? = some (some v) ∧ Same F F' ∧ Rep C F' H (Γ.set i .fr) σ ρ ((.fr, d, v) :: L) := by
  obtain ⟨v, h1, r1⟩ := r.take e1 e2
  obtain ⟨F', s, r2⟩ := r1.freeze q
  have r3 : Rep C F' H Γ σ (ρ.set i none) ((.fr, d, v) :: (.fr, d, v) :: L) := r2.cons0 ⟨rfl, r2.fr⟩
  have r4 := r3.back (i := i) h1 (.inr hio)
  rw [set_set', set_id e2] at r4
  exact ⟨v, F', h1, s, r4⟩
/-- the slot's data, peeked -/
theorem Rep.look {i : Nat} (r : Rep C F H Γ σ ρ L) (e1 : Γ[i]? = some m) (e2 : ρ[i]? = some (some d)) : ∃ v, σ[i]? = some (some v) ∧ Rep C F H Γ σ ρ ((m.peek, d, v) :: L) := by
  obtain ⟨v, f, h1, h2⟩ := r.get e1 e2
  exact ⟨v, h1, r.cons0 h2.peek⟩
end

/-! ### what readings simulate -/
/-- the mirror of an expression -/
abbrev GE := EnvD → Rs DV
abbrev GT := EnvD → Rs Bool
abbrev GA := EnvD → Rs (List DV)
abbrev GX := EnvD → Rs (DV × EnvD)
abbrev GS := EnvD → Out
/-- what is wanted of an exception: class, value, heap -/
abbrev Wx := Str → DV → Hp → Prop
def PE' (C : Cxt) (W : Wx) (Γ : List Md) (F H : Hp) (σ : L2.St) (ρ : EnvD) (L : List Ent) (m : Md) (Q : VK) : Rs DV → Prop
  | .ok d => ∀ F' H' v, Same F F' → Same H H' → Rep C F' H' Γ σ ρ ((m, d, v) :: L) → Q v H'
  | .ex c d => ∀ F' H', Same F F' → Same H H' → Fit C F' H' → W c d H'
  | .stuck => False
def PT' (C : Cxt) (W : Wx) (Γ : List Md) (F H : Hp) (σ : L2.St) (ρ : EnvD) (L : List Ent) (Q : Bool → Hp → Prop) : Rs Bool → Prop
  | .ok b => ∀ F' H', Same F F' → Same H H' → Rep C F' H' Γ σ ρ L → Q b H'
  | .ex c d => ∀ F' H', Same F F' → Same H H' → Fit C F' H' → W c d H'
  | .stuck => False
/-- the entries of an argument list, the last one first -/
def entsA : List Md → List DV → List V → List Ent → List Ent
  | m :: ms, d :: ds, v :: vs, L => entsA ms ds vs ((m, d, v) :: L)
  | _, _, _, L => L
def PA' (C : Cxt) (W : Wx) (Γ : List Md) (F H : Hp) (σ : L2.St) (ρ : EnvD) (L : List Ent) (ms : List Md) (Q : List V → Hp → Prop) : Rs (List DV) → Prop
  | .ok ds => ∀ F' H' vs, Same F F' → Same H H' → ds.length = vs.length → ms.length = vs.length → Rep C F' H' Γ σ ρ (entsA ms ds vs L) → Q vs H'
  | .ex c d => ∀ F' H', Same F F' → Same H H' → Fit C F' H' → W c d H'
  | .stuck => False
/-- entries that may be pending -/
def okL (L : List Ent) : Prop := ∀ e ∈ L, e.1.stor = true ∨ e.1.free = true
theorem okL_nil : okL [] := fun _ h => by cases h
theorem okL_cons {e : Ent} {L : List Ent} (h1 : (e.1.stor || e.1.free) = true) (h2 : okL L) : okL (e :: L) := fun x hx => by
  rcases List.mem_cons.mp hx with rfl | hx
  · exact (Bool.or_eq_true _ _).mp h1
  · exact h2 x hx
/-- the reading t gives what g gives, in the mode m -/
def SE (C : Cxt) (W : Wx) (Γ : List Md) (t : TE) (g : GE) (m : Md) : Prop :=
  ∀ F H σ ρ L Q, okL L → Rep C F H Γ σ ρ L → PE' C W Γ F H σ ρ L m Q (g ρ) → t σ H Q
def ST (C : Cxt) (W : Wx) (Γ : List Md) (t : TT) (g : GT) : Prop :=
  ∀ F H σ ρ L Q, okL L → Rep C F H Γ σ ρ L → PT' C W Γ F H σ ρ L Q (g ρ) → t σ H Q
def SA (C : Cxt) (W : Wx) (Γ : List Md) (t : TA) (g : GA) (ms : List Md) : Prop :=
  ∀ F H σ ρ L Q, okL L → Rep C F H Γ σ ρ L → PA' C W Γ F H σ ρ L ms Q (g ρ) → t σ H Q
section
variable {C : Cxt} {W : Wx} {F F' H H' : Hp} {Γ : List Md} {σ : L2.St} {ρ : EnvD} {L : List Ent} {m : Md} {ms : List Md}
theorem PE'.mono {Q : VK} {r : Rs DV} (h : PE' C W Γ F H σ ρ L m Q r) (a : Same F F') (b : Same H H') : PE' C W Γ F' H' σ ρ L m Q r := by
  cases r with
  | ok d => exact fun F2 H2 v s1 s2 => h F2 H2 v (a.trans s1) (b.trans s2)
  | ex c d => exact fun F2 H2 s1 s2 => h F2 H2 (a.trans s1) (b.trans s2)
  | stuck => exact h
theorem PT'.mono {Q : Bool → Hp → Prop} {r : Rs Bool} (h : PT' C W Γ F H σ ρ L Q r) (a : Same F F') (b : Same H H') : PT' C W Γ F' H' σ ρ L Q r := by
  cases r with
  | ok d => exact fun F2 H2 s1 s2 => h F2 H2 (a.trans s1) (b.trans s2)
  | ex c d => exact fun F2 H2 s1 s2 => h F2 H2 (a.trans s1) (b.trans s2)
  | stuck => exact h
theorem PA'.mono {Q : List V → Hp → Prop} {r : Rs (List DV)} (h : PA' C W Γ F H σ ρ L ms Q r) (a : Same F F') (b : Same H H') : PA' C W Γ F' H' σ ρ L ms Q r := by
  cases r with
  | ok d => exact fun F2 H2 v s1 s2 => h F2 H2 v (a.trans s1) (b.trans s2)
  | ex c d => exact fun F2 H2 s1 s2 => h F2 H2 (a.trans s1) (b.trans s2)
  | stuck => exact h
variable {ta : TE} {ga : GE} {tt : TT} {gt : GT} {tl : TA} {gl : GA} {ma : Md}
/-- an expression first, then the rest (of an expression) -/
theorem se_then {f : DV → Rs DV} {L2 : List Ent} {Q : VK} {R : VK} (ha : SE C W Γ ta ga ma) (hL : okL L) (r : Rep C F H Γ σ ρ L) (h : PE' C W Γ F H σ ρ L2 m Q ((ga ρ).bind f))
    (k : ∀ d F1 H1 x, Same F F1 → Same H H1 → Rep C F1 H1 Γ σ ρ ((ma, d, x) :: L) → PE' C W Γ F1 H1 σ ρ L2 m Q (f d) → R x H1) : ta σ H R := by
  refine ha F H σ ρ L R hL r ?_
  revert h
  cases ga ρ with
  | ok d => exact fun h F1 H1 x s1 s2 r1 => k d F1 H1 x s1 s2 r1 (h.mono s1 s2)
  | ex c d => exact fun h => h
  | stuck => exact fun h => h
theorem se_thenT {f : DV → Rs Bool} {L2 : List Ent} {Q : Bool → Hp → Prop} {R : VK} (ha : SE C W Γ ta ga ma) (hL : okL L) (r : Rep C F H Γ σ ρ L) (h : PT' C W Γ F H σ ρ L2 Q ((ga ρ).bind f))
    (k : ∀ d F1 H1 x, Same F F1 → Same H H1 → Rep C F1 H1 Γ σ ρ ((ma, d, x) :: L) → PT' C W Γ F1 H1 σ ρ L2 Q (f d) → R x H1) : ta σ H R := by
  refine ha F H σ ρ L R hL r ?_
  revert h
  cases ga ρ with
  | ok d => exact fun h F1 H1 x s1 s2 r1 => k d F1 H1 x s1 s2 r1 (h.mono s1 s2)
  | ex c d => exact fun h => h
  | stuck => exact fun h => h
theorem se_thenA {f : DV → Rs (List DV)} {L2 : List Ent} {Q : List V → Hp → Prop} {R : VK} (ha : SE C W Γ ta ga ma) (hL : okL L) (r : Rep C F H Γ σ ρ L) (h : PA' C W Γ F H σ ρ L2 ms Q ((ga ρ).bind f))
    (k : ∀ d F1 H1 x, Same F F1 → Same H H1 → Rep C F1 H1 Γ σ ρ ((ma, d, x) :: L) → PA' C W Γ F1 H1 σ ρ L2 ms Q (f d) → R x H1) : ta σ H R := by
  refine ha F H σ ρ L R hL r ?_
  revert h
  cases ga ρ with
  | ok d => exact fun h F1 H1 x s1 s2 r1 => k d F1 H1 x s1 s2 r1 (h.mono s1 s2)
  | ex c d => exact fun h => h
  | stuck => exact fun h => h
theorem st_then {f : Bool → Rs DV} {L2 : List Ent} {Q : VK} {R : Bool → Hp → Prop} (ha : ST C W Γ tt gt) (hL : okL L) (r : Rep C F H Γ σ ρ L) (h : PE' C W Γ F H σ ρ L2 m Q ((gt ρ).bind f))
    (k : ∀ b F1 H1, Same F F1 → Same H H1 → Rep C F1 H1 Γ σ ρ L → PE' C W Γ F1 H1 σ ρ L2 m Q (f b) → R b H1) : tt σ H R := by
  refine ha F H σ ρ L R hL r ?_
  revert h
  cases gt ρ with
  | ok d => exact fun h F1 H1 s1 s2 r1 => k d F1 H1 s1 s2 r1 (h.mono s1 s2)
  | ex c d => exact fun h => h
  | stuck => exact fun h => h
theorem st_thenT {f : Bool → Rs Bool} {L2 : List Ent} {Q : Bool → Hp → Prop} {R : Bool → Hp → Prop} (ha : ST C W Γ tt gt) (hL : okL L) (r : Rep C F H Γ σ ρ L) (h : PT' C W Γ F H σ ρ L2 Q ((gt ρ).bind f))
    (k : ∀ b F1 H1, Same F F1 → Same H H1 → Rep C F1 H1 Γ σ ρ L → PT' C W Γ F1 H1 σ ρ L2 Q (f b) → R b H1) : tt σ H R := by
  refine ha F H σ ρ L R hL r ?_
  revert h
  cases gt ρ with
  | ok d => exact fun h F1 H1 s1 s2 r1 => k d F1 H1 s1 s2 r1 (h.mono s1 s2)
  | ex c d => exact fun h => h
  | stuck => exact fun h => h
theorem sa_then {f : List DV → Rs DV} {L2 : List Ent} {Q : VK} {R : List V → Hp → Prop} (ha : SA C W Γ tl gl ms) (hL : okL L) (r : Rep C F H Γ σ ρ L) (h : PE' C W Γ F H σ ρ L2 m Q ((gl ρ).bind f))
    (k : ∀ ds F1 H1 vs, Same F F1 → Same H H1 → ds.length = vs.length → ms.length = vs.length → Rep C F1 H1 Γ σ ρ (entsA ms ds vs L) → PE' C W Γ F1 H1 σ ρ L2 m Q (f ds) → R vs H1) : tl σ H R := by
  refine ha F H σ ρ L R hL r ?_
  revert h
  cases gl ρ with
  | ok d => exact fun h F1 H1 x s1 s2 e1 e2 r1 => k d F1 H1 x s1 s2 e1 e2 r1 (h.mono s1 s2)
  | ex c d => exact fun h => h
  | stuck => exact fun h => h
end
end DL
end

/-! text DL2 -/
section
set_option maxRecDepth 100000
set_option maxHeartbeats 4000000
/-! the data layer, part 2: expressions -/
namespace DL
open PySem PySem.Spec PyProof.Rows L2

/-! ### data -/
def flat : DV → Option V
  | .non => some .non
  | .bl b => some (.bl b)
  | .int i => some (.int i)
  | .str x => some (.str x)
  | _ => none
mutual
def imm : DV → Bool
  | .tup ds => imms ds
  | .lst _ => false
  | .dct _ _ => false
  | .obj _ _ _ => false
  | .non => true
  | .bl _ => true
  | .int _ => true
  | .str _ => true
def imms : List DV → Bool
  | [] => true
  | d :: ds => imm d && imms ds
end
section
variable {C : Cxt} {W : Wx} {F F' H H' : Hp} {Γ : List Md} {σ : L2.St} {ρ : EnvD} {L : List Ent} {m : Md} {d : DV} {v : V}
theorem flat_da {K : PySem.W.Frag} {mg : Str → Option Value} : ∀ {d : DV} {v : V}, flat d = some v → DA K mg F d v
  | .non, _, h => by cases h; rfl
  | .bl _, _, h => by cases h; rfl
  | .int _, _, h => by cases h; rfl
  | .str _, _, h => by cases h; rfl
  | .tup _, _, h => by cases h
  | .lst _, _, h => by cases h
  | .dct _ _, _, h => by cases h
  | .obj _ _ _, _, h => by cases h
theorem da_flat {K : PySem.W.Frag} {mg : Str → Option Value} : ∀ {d : DV} {v w : V}, flat d = some w → DA K mg F d v → v = w
  | .non, _, _, h, k => by cases h; exact k
  | .bl _, _, _, h, k => by cases h; exact k
  | .int _, _, _, h, k => by cases h; exact k
  | .str _, _, _, h, k => by cases h; exact k
  | .tup _, _, _, h, _ => by cases h
  | .lst _, _, _, h, _ => by cases h
  | .dct _ _, _, _, h, _ => by cases h
  | .obj _ _ _, _, _, h, _ => by cases h
theorem flat_on {m : Md} (h : flat d = some v) : isLD d = false ∧ isObj d = false ∧ isTup d = false := by
  cases d <;> first | exact ⟨rfl, rfl, rfl⟩ | cases h
theorem At.flat (q : m.rd = true) (h : flat d = some v) : At C F H m d v [] := by
  obtain ⟨h1, h2, h3⟩ := flat_on (m := m) h
  cases m with
  | sc => cases q
  | fr => exact ⟨rfl, flat_da h⟩
  | bo => exact ⟨rfl, flat_da h⟩
  | pk m => unfold At; rw [if_neg (by rw [h1]; exact Bool.false_ne_true)]; exact ⟨rfl, flat_da h⟩
  | own m => unfold At; rw [if_neg (by rw [h1]; exact Bool.false_ne_true)]; exact ⟨rfl, flat_da h⟩
  | tu m => unfold At; rw [if_neg (by rw [h3]; exact Bool.false_ne_true)]; exact ⟨rfl, flat_da h⟩
  | ob m => unfold At; rw [if_neg (by rw [h2]; exact Bool.false_ne_true)]; exact ⟨rfl, flat_da h⟩
  | po m => unfold At; rw [if_neg (by rw [h2]; exact Bool.false_ne_true)]; exact ⟨rfl, flat_da h⟩
theorem tupO_rd {K : PySem.W.Frag} {a : Addr} {vs : List V} (tp : ∀ a o, H a = some o → tupO o = true → F a = some o) (h : SqT K H a vs) : SqT K F a vs := by
  rcases h with (h | ⟨o, h⟩) | h
  · exact .inl (.inl (tp _ _ h rfl))
  · exact .inl (.inr ⟨o, tp _ _ h rfl⟩)
  · exact .inr h
mutual
theorem imm_da {K : PySem.W.Frag} {mg : Str → Option Value} (tp : ∀ a o, H a = some o → tupO o = true → F a = some o) : ∀ (d : DV) (v : V), imm d = true → DA K mg H d v → DA K mg F d v
  | .non, _, _, h => h
  | .bl _, _, _, h => h
  | .int _, _, _, h => h
  | .str _, _, _, h => h
  | .tup ds, _, q, ⟨a, vs, h1, h2, h3⟩ => ⟨a, vs, h1, tupO_rd tp h2, imms_da tp ds vs q h3⟩
  | .lst _, _, q, _ => by cases q
  | .dct _ _, _, q, _ => by cases q
  | .obj _ _ _, _, q, _ => by cases q
theorem imms_da {K : PySem.W.Frag} {mg : Str → Option Value} (tp : ∀ a o, H a = some o → tupO o = true → F a = some o) : ∀ (ds : List DV) (vs : List V), imms ds = true → DAs K mg H ds vs → DAs K mg F ds vs
  | [], _, _, h => h
  | d :: ds, _, q, ⟨v, r, h1, h2, h3⟩ => ⟨v, r, h1, imm_da tp d v ((Bool.and_eq_true _ _).mp q).1 h2, imms_da tp ds r ((Bool.and_eq_true _ _).mp q).2 h3⟩
end

/-! ### an answer -/
theorem PE'.give {Q : VK} (r : Rep C F H Γ σ ρ L) (h : PE' C W Γ F H σ ρ L m Q (.ok d)) (hv : At C F H m d v []) : Q v H := h F H v (Same.refl _) (Same.refl _) (r.cons0 hv)
theorem PE'.flat {Q : VK} (r : Rep C F H Γ σ ρ L) (h : PE' C W Γ F H σ ρ L m Q (.ok d)) (q : m.rd = true) (e : flat d = some v) : Q v H := h.give r (At.flat q e)
theorem PE'.ext {Q : VK} {e : Ent} {x : Rs DV} (h : PE' C W Γ F H σ ρ L m Q x) : PE' C W Γ F H σ ρ (e :: L) m Q x := by
  cases x with
  | ok d => exact fun F' H' v s1 s2 r => h F' H' v s1 s2 r.swap.tail
  | ex c d => exact h
  | stuck => exact h
theorem PT'.ext {Q : Bool → Hp → Prop} {e : Ent} {x : Rs Bool} (h : PT' C W Γ F H σ ρ L Q x) : PT' C W Γ F H σ ρ (e :: L) Q x := by
  cases x with
  | ok d => exact fun F' H' s1 s2 r => h F' H' s1 s2 r.tail
  | ex c d => exact h
  | stuck => exact h

/-! ### names, constants, coercions -/
def lk (ρ : EnvD) (i : Nat) : Rs DV := match ρ[i]? with
  | some (some d) => .ok d
  | _ => .stuck
def gVar (i : Nat) : GE := fun ρ => lk ρ i
def gC (d : DV) : GE := fun _ => .ok d
theorem lk_ok {i : Nat} (h : lk ρ i = .ok d) : ρ[i]? = some (some d) := by
  unfold lk at h
  split at h
  · rename_i e; cases h; exact e
  · cases h
theorem lk_cases (ρ : EnvD) (i : Nat) : (∃ d, ρ[i]? = some (some d) ∧ lk ρ i = .ok d) ∨ lk ρ i = .stuck := by
  unfold lk
  split
  · rename_i d e; exact .inl ⟨d, e, rfl⟩
  · exact .inr rfl
theorem se_var {i : Nat} (e : Γ[i]? = some m) : SE C W Γ (tVar i) (gVar i) m.peek := by
  intro F H σ ρ L Q hL r h
  unfold gVar at h
  rcases lk_cases ρ i with ⟨d, e2, e3⟩ | e3
  · rw [e3] at h
    obtain ⟨v, h1, r1⟩ := r.look e e2
    exact ⟨v, h1, h F H v (Same.refl _) (Same.refl _) r1⟩
  · rw [e3] at h
    exact h.elim
theorem se_const {t : V} (q : m.rd = true) (h : flat d = some t) : SE C W Γ (tC t) (gC d) m := fun F H σ ρ L Q hL r k => k.flat r q h
theorem se_int {i : Int} : SE C W Γ (tC (.int i)) (gC (.int i)) .fr := se_const rfl rfl
theorem se_bl {b : Bool} : SE C W Γ (tC (.bl b)) (gC (.bl b)) .fr := se_const rfl rfl
theorem se_non : SE C W Γ (tC .non) (gC .non) .fr := se_const rfl rfl
theorem se_str {x : Str} : SE C W Γ (tC (.str x)) (gC (.str x)) .fr := se_const rfl rfl
/-- a module's constant -/
theorem se_glob {t : V} (h : ∀ F, DA C.K C.mg F d t) : SE C W Γ (tC t) (gC d) .fr := fun F H σ ρ L Q hL r k => k.give r ⟨rfl, h F⟩
/-- frozen -/
theorem se_fr {t : TE} {g : GE} (h : SE C W Γ t g m) (q : m.fz = true) : SE C W Γ t g .fr := by
  intro F H σ ρ L Q hL r k
  refine h F H σ ρ L Q hL r ?_
  revert k
  cases g ρ with
  | ok d =>
    intro k F1 H1 v s1 s2 r1
    obtain ⟨F2, s3, r2⟩ := r1.freeze q
    exact k F2 H1 v (s1.trans s3) s2 r2
  | ex c d => exact fun k => k
  | stuck => exact fun k => k
def gImm (g : GE) : GE := fun ρ => (g ρ).bind fun d => if imm d = true then .ok d else .stuck
/-- what cannot change is frozen by itself -/
theorem se_imm {t : TE} {g : GE} (h : SE C W Γ t g m) (q : m.rd = true) : SE C W Γ t (gImm g) .fr := by
  intro F H σ ρ L Q hL r k
  refine se_then h hL r k fun d F1 H1 x s1 s2 r1 k1 => ?_
  split at k1
  · rename_i hi
    exact k1 F1 H1 x (Same.refl _) (Same.refl _) (r1.tail.cons0 ⟨rfl, imm_da r1.fit.tp _ _ hi (r1.da q)⟩)
  · exact k1.elim
/-- peeked -/
theorem se_pk {t : TE} {g : GE} (h : SE C W Γ t g m) : SE C W Γ t g m.peek := by
  intro F H σ ρ L Q hL r k
  refine h F H σ ρ L Q hL r ?_
  revert k
  cases g ρ with
  | ok d => exact fun k F1 H1 v s1 s2 r1 => k F1 H1 v s1 s2 r1.peek
  | ex c d => exact fun k => k
  | stuck => exact fun k => k

/-! ### operators -/
abbrev OpD := DV → DV → Rs DV
/-- an operator's reading gives what op gives -/
def OpS (C : Cxt) (W : Wx) (r : R2) (op : OpD) (ma mb m : Md) : Prop :=
  ∀ Γ F H σ ρ L x y dx dy Q, Rep C F H Γ σ ρ ((mb, dy, y) :: (ma, dx, x) :: L) → PE' C W Γ F H σ ρ L m Q (op dx dy) → r x y H Q
def gBin (op : OpD) (ga gb : GE) : GE := fun ρ => (ga ρ).bind fun x => (gb ρ).bind fun y => op x y
theorem se_op {r : R2} {op : OpD} {ta tb : TE} {ga gb : GE} {ma mb : Md} (ho : OpS C W r op ma mb m) (ha : SE C W Γ ta ga ma) (hb : SE C W Γ tb gb mb) (qo : (ma.stor || ma.free) = true := by rfl) : SE C W Γ (tOp r ta tb) (gBin op ga gb) m := by
  intro F H σ ρ L Q hL r0 k
  show ta σ H fun x H1 => tb σ H1 fun y H2 => r x y H2 Q
  refine se_then ha hL r0 k fun x F1 H1 vx s1 s2 r1 k1 => ?_
  refine se_then hb (okL_cons qo hL) r1 k1 fun y F2 H2 vy s3 s4 r2 k2 => ?_
  refine ho Γ F2 H2 σ ρ L vx vy x y Q r2 ?_
  exact k2
/-- one of two readings -/
def rOr (r1 r2 : R2) : R2 := fun x y H Q => r1 x y H Q ∨ r2 x y H Q
def opOr (f g : OpD) : OpD := fun x y => match f x y with
  | .stuck => g x y
  | r => r
theorem OpS.or {r1 r2 : R2} {f g : OpD} {ma mb : Md} (h1 : OpS C W r1 f ma mb m) (h2 : OpS C W r2 g ma mb m) : OpS C W (rOr r1 r2) (opOr f g) ma mb m := by
  intro Γ F H σ ρ L x y dx dy Q r k
  unfold opOr at k
  cases e : f dx dy with
  | ok d => rw [e] at k; exact .inl (h1 Γ F H σ ρ L x y dx dy Q r (by rw [e]; exact k))
  | ex c d => rw [e] at k; exact .inl (h1 Γ F H σ ρ L x y dx dy Q r (by rw [e]; exact k))
  | stuck => rw [e] at k; exact .inr (h2 Γ F H σ ρ L x y dx dy Q r k)
theorem OpR_or {X : Cx} {f : Value → Value → Sem Value} {r1 r2 : R2} (h1 : OpR X f r1) (h2 : OpR X f r2) : OpR X f (rOr r1 r2) := fun pins s σ H x y v u Q I a b h => h.elim (h1 pins s σ H x y v u Q I a b) (h2 pins s σ H x y v u Q I a b)
theorem IxR_or {X : Cx} {r1 r2 : R2} (h1 : IxR X r1) (h2 : IxR X r2) : IxR X (rOr r1 r2) := fun a b pins s σ H x y v u Q I c d h => h.elim (h1 a b pins s σ H x y v u Q I c d) (h2 a b pins s σ H x y v u Q I c d)

/-- ints -/
def dII (p : Int → Int → Bool) (g : Int → Int → DV) : OpD := fun x y => match x, y with
  | .int i, .int j => if p i j = true then .ok (g i j) else .stuck
  | _, _ => .stuck
theorem Rep.da2 {x y : V} {dx dy : DV} {ma mb : Md} (r : Rep C F H Γ σ ρ ((mb, dy, y) :: (ma, dx, x) :: L)) (qa : ma.rd = true) (qb : mb.rd = true) : DA C.K C.mg H dx x ∧ DA C.K C.mg H dy y := ⟨r.tail.da qa, r.da qb⟩
theorem ops_ii {P : Int → Int → Prop} {p : Int → Int → Bool} {g : Int → Int → V} {gd : Int → Int → DV} {ma mb : Md} (qa : ma.rd = true) (qb : mb.rd = true) (q : m.rd = true) (hp : ∀ i j, p i j = true → P i j) (hg : ∀ i j, flat (gd i j) = some (g i j)) :
    OpS C W (rI P g) (dII p gd) ma mb m := by
  intro Γ F H σ ρ L x y dx dy Q r k
  obtain ⟨h1, h2⟩ := r.da2 qa qb
  unfold dII at k
  split at k
  · rename_i i j
    split at k
    · rename_i hq
      exact ⟨i, j, h1, h2, hp i j hq, k.flat r.tail.tail q (hg i j)⟩
    · exact k.elim
  · exact k.elim
theorem ops_ii0 {g : Int → Int → V} {gd : Int → Int → DV} {ma mb : Md} (qa : ma.rd = true) (qb : mb.rd = true) (q : m.rd = true) (hg : ∀ i j, flat (gd i j) = some (g i j)) :
    OpS C W (rI0 g) (dII (fun _ _ => true) gd) ma mb m := by
  intro Γ F H σ ρ L x y dx dy Q r k
  obtain ⟨h1, h2⟩ := r.da2 qa qb
  unfold dII at k
  split at k
  · rename_i i j
    rw [if_pos rfl] at k
    exact ⟨i, j, h1, h2, k.flat r.tail.tail q (hg i j)⟩
  · exact k.elim
end
end DL
end

/-! text DL3 -/
section
set_option maxRecDepth 100000
set_option maxHeartbeats 4000000
/-! the data layer, part 3: operators -/
namespace DL
open PySem PySem.Spec PyProof.Rows L2

/-- a mode that what is frozen has, too -/
@[reducible] def Md.fo : Md → Bool
  | .fr => true
  | .pk m => m.fo
  | .tu m => m.fo
  | .po m => m.fo
  | _ => false
/-- a mode whose parts may be read off -/
@[reducible] def Md.ixok : Md → Bool
  | .fr => true
  | .bo => true
  | .sc => true
  | .pk m => m.fo
  | .tu m => m.fo
  | .po m => m.fo
  | _ => false
section
variable {C : Cxt} {W : Wx} {F F' H H' : Hp} {Γ : List Md} {σ : L2.St} {ρ : EnvD} {L : List Ent} {m ma mb : Md} {d : DV} {v : V}
theorem At.of_fr (s : Same F H) : ∀ {m : Md} {d : DV} {v : V}, m.fo = true → DA C.K C.mg F d v → At C F H m d v [] := by
  intro m
  induction m with
  | fr => intro d v _ h; exact ⟨rfl, h⟩
  | bo => intro d v q; cases q
  | sc => intro d v q; cases q
  | own m _ => intro d v q; cases q
  | ob m _ => intro d v q; cases q
  | pk m ih =>
    intro d v q h
    unfold At
    split
    · cases d with
      | lst ds => obtain ⟨a, vs, h1, h2, h3⟩ := h; exact ⟨a, vs, h1, same_rd s h2, Alls.of_das h3 fun d v x => ih q x⟩
      | dct ks ds => obtain ⟨a, vs, h1, h2, h3⟩ := h; exact ⟨a, vs, h1, ⟨s _ _ h2.1, h2.2⟩, Alls.of_das h3 fun d v x => ih q x⟩
      | _ => rename_i z; cases z
    · exact ⟨rfl, h⟩
  | po m ih =>
    intro d v q h
    unfold At
    split
    · cases d with
      | obj c ns ds => obtain ⟨a, vs, h1, ⟨C1, dx, g, h2, h4⟩, h3⟩ := h; exact ⟨a, vs, h1, ⟨C1, dx, g, s _ _ h2, h4⟩, Alls.of_das h3 fun d v x => ih q x⟩
      | _ => rename_i z; cases z
    · exact ⟨rfl, h⟩
  | tu m ih =>
    intro d v q h
    unfold At
    split
    · cases d with
      | tup ds => obtain ⟨a, vs, h1, h2, h3⟩ := h; exact ⟨a, vs, h1, h2, Alls.of_das h3 fun d v x => ih q x⟩
      | _ => rename_i z; cases z
    · exact ⟨rfl, h⟩
theorem fo_rd : ∀ m : Md, m.fo = true → m.rd = true
  | .fr, _ => rfl
  | .pk m, h => fo_rd m h
  | .tu m, h => fo_rd m h
  | .po m, h => fo_rd m h
theorem Rep.daX (r : Rep C F H Γ σ ρ ((m, d, v) :: L)) (q : m.ixok = true) (hd : ∀ ds, d ≠ .lst ds) : DA C.K C.mg H d v := by
  cases m with
  | fr => exact r.da rfl
  | bo => exact r.da rfl
  | sc => obtain ⟨f, h⟩ := r.head; obtain ⟨_, a, ns, _, h2, _⟩ := h; exact absurd h2 (hd _)
  | pk m => exact r.da (fo_rd m q)
  | tu m => exact r.da (fo_rd m q)
  | po m => exact r.da (fo_rd m q)
  | own m => cases q
  | ob m => cases q
theorem DAs.at (h : DAs C.K C.mg F ds vs) (k : ∀ d v, DA C.K C.mg F d v → At C F H m d v []) : Alls (At C F H m) ds vs [] := Alls.of_das h k
/-- the items of a list -/
theorem Rep.items {ds : List DV} (r : Rep C F H Γ σ ρ ((ma, .lst ds, v) :: L)) (q : ma.ixok = true) : ∃ a vs, v = .ref a ∧ (SqL C.K H a vs ∧ (ma.rd = true → Rd H a (.lst vs))) ∧ Alls (At C F H ma.kid) ds vs [] := by
  obtain ⟨f, h⟩ := r.head
  have s := r.fit.fh
  cases ma with
  | fr =>
    obtain ⟨_, a, vs, h1, h2, h3⟩ := h
    exact ⟨a, vs, h1, ⟨.inl (same_rd s h2), fun _ => same_rd s h2⟩, Alls.of_das h3 fun d v x => ⟨rfl, x⟩⟩
  | bo =>
    obtain ⟨_, a, vs, h1, h2, h3⟩ := h
    exact ⟨a, vs, h1, ⟨.inl (same_rd r.fit.bh h2), fun _ => same_rd r.fit.bh h2⟩, Alls.of_das h3 fun d v x => ⟨rfl, x⟩⟩
  | sc =>
    obtain ⟨_, a, ns, h1, h2, h3⟩ := h
    cases h2
    refine ⟨a, _, h1, ⟨s.seq h3, fun q => by cases q⟩, ?_⟩
    clear h1 h3 r
    induction ns with
    | nil => exact ⟨rfl, rfl⟩
    | cons n ns ih => exact ⟨.int n, _, [], [], rfl, rfl, ⟨rfl, rfl⟩, ih⟩
  | pk m =>
    unfold At at h
    rw [if_pos (show isLD (DV.lst ds) = true from rfl)] at h
    obtain ⟨a, vs, h1, h2, h3⟩ := h
    exact ⟨a, vs, h1, ⟨.inl h2, fun _ => h2⟩, h3.pt fun d v f x => by
      have e := x.free_nil (by
        clear r h1 h2 h3 x
        induction m with
        | fr => rfl
        | pk m ih => exact ih q
        | po m ih => exact ih q
        | tu m ih => exact ih q
        | _ => cases q)
      rw [e] at x
      exact x⟩
  | tu m =>
    unfold At at h
    rw [if_neg (by exact Bool.false_ne_true)] at h
    obtain ⟨_, a, vs, h1, h2, h3⟩ := h
    exact ⟨a, vs, h1, ⟨.inl (same_rd s h2), fun _ => same_rd s h2⟩, Alls.of_das h3 fun d v x => At.of_fr s q x⟩
  | po m =>
    unfold At at h
    rw [if_neg (by exact Bool.false_ne_true)] at h
    obtain ⟨_, a, vs, h1, h2, h3⟩ := h
    exact ⟨a, vs, h1, ⟨.inl (same_rd s h2), fun _ => same_rd s h2⟩, Alls.of_das h3 fun d v x => At.of_fr s q x⟩
  | own m => cases q
  | ob m => cases q
theorem Rep.parts {ds : List DV} (r : Rep C F H Γ σ ρ ((ma, .tup ds, v) :: L)) (q : ma.ixok = true) : ∃ a vs, v = .ref a ∧ SqT C.K H a vs ∧ Alls (At C F H ma.kid) ds vs [] := by
  obtain ⟨f, h⟩ := r.head
  have s := r.fit.fh
  cases ma with
  | fr =>
    obtain ⟨_, a, vs, h1, h2, h3⟩ := h
    exact ⟨a, vs, h1, same_sqt s h2, Alls.of_das h3 fun d v x => ⟨rfl, x⟩⟩
  | bo =>
    obtain ⟨_, a, vs, h1, h2, h3⟩ := h
    exact ⟨a, vs, h1, same_sqt r.fit.bh h2, Alls.of_das h3 fun d v x => ⟨rfl, x⟩⟩
  | sc =>
    obtain ⟨_, a, ns, h1, h2, h3⟩ := h
    cases h2
  | tu m =>
    unfold At at h
    rw [if_pos (show isTup (DV.tup ds) = true from rfl)] at h
    obtain ⟨a, vs, h1, h2, h3⟩ := h
    exact ⟨a, vs, h1, same_sqt s h2, h3.pt fun d v f x => by
      have e := x.free_nil (by
        clear r h1 h2 h3 x
        induction m with
        | fr => rfl
        | pk m ih => exact ih q
        | po m ih => exact ih q
        | tu m ih => exact ih q
        | _ => cases q)
      rw [e] at x
      exact x⟩
  | pk m =>
    unfold At at h
    rw [if_neg (by exact Bool.false_ne_true)] at h
    obtain ⟨_, a, vs, h1, h2, h3⟩ := h
    exact ⟨a, vs, h1, same_sqt s h2, Alls.of_das h3 fun d v x => At.of_fr s q x⟩
  | po m =>
    unfold At at h
    rw [if_neg (by exact Bool.false_ne_true)] at h
    obtain ⟨_, a, vs, h1, h2, h3⟩ := h
    exact ⟨a, vs, h1, same_sqt s h2, Alls.of_das h3 fun d v x => At.of_fr s q x⟩
  | own m => cases q
  | ob m => cases q
theorem Alls.nil_get {R : DV → V → List Addr → Prop} {ds : List DV} {vs : List V} {i : Nat} (h : Alls R ds vs []) (e : ds[i]? = some d) : ∃ v, vs[i]? = some v ∧ R d v [] := by
  obtain ⟨v, f, h1, h2, h3⟩ := h.get e
  have e : f = [] := by
    cases f with
    | nil => rfl
    | cons a f => exact absurd (h3 a List.mem_cons_self) (List.not_mem_nil)
  rw [e] at h2
  exact ⟨v, h1, h2⟩
theorem Alls.atI {R : DV → V → List Addr → Prop} {ds : List DV} {vs : List V} {i : Int} (h : Alls R ds vs []) (e : L2.atI ds i = some d) : ∃ v, L2.atI vs i = some v ∧ R d v [] := by
  unfold L2.atI at e ⊢
  rw [← h.length]
  cases q : ixN ds.length i with
  | none => rw [q] at e; cases e
  | some j =>
    rw [q] at e
    exact h.nil_get (i := j) e

/-! ### subscripts -/
def ofO (o : Option DV) : Rs DV := match o with
  | some d => .ok d
  | none => .stuck
def dIx : OpD := fun x y => match x, y with
  | .lst ds, .int i => ofO (L2.atI ds i)
  | .tup ds, .int i => ofO (L2.atI ds i)
  | _, _ => .stuck
abbrev rIxX (K : PySem.W.Frag) : R2 := rOr (rIxL K) (rIxT K)
theorem ix_X {X : Cx} : IxR X (rIxX X.K) := IxR_or ix_list ix_tup
theorem os_ix (q : ma.ixok = true := by rfl) (qb : mb.rd = true := by rfl) : OpS C W (rIxX C.K) dIx ma mb ma.kid := by
  intro Γ F H σ ρ L x y dx dy Q r k
  unfold dIx at k
  have hy := r.da qb
  split at k
  · rename_i ds i
    obtain ⟨a, vs, h1, h2, h3⟩ := r.tail.items q
    cases e : L2.atI ds i with
    | none => rw [e] at k; exact k.elim
    | some d =>
      rw [e] at k
      obtain ⟨w, e1, e2⟩ := h3.atI e
      exact .inl ⟨a, vs, i, w, h1, hy, h2.1, e1, k.give r.tail.tail e2⟩
  · rename_i ds i
    obtain ⟨a, vs, h1, h2, h3⟩ := r.tail.parts q
    cases e : L2.atI ds i with
    | none => rw [e] at k; exact k.elim
    | some d =>
      rw [e] at k
      obtain ⟨w, e1, e2⟩ := h3.atI e
      exact .inr ⟨a, vs, i, w, h1, hy, h2, e1, k.give r.tail.tail e2⟩
  · exact k.elim

/-! ### new lists -/
theorem upd_nt {p : Addr} {o : HO} (np : H p = none) (ho : tupO o = false) : ∀ a u, upd H p o a = some u → tupO u = true → H a = some u := fun a u e q => by
  by_cases h : a = p
  · subst h
    rw [upd_same] at e
    cases e
    rw [ho] at q
    cases q
  · rw [upd_ne h] at e
    exact e
/-- objects laid, of which one is the root of a new entry -/
theorem Rep.new {fp : List Addr} (r : Rep C F H Γ σ ρ L) (s : Same H H') (nt : ∀ a o, H' a = some o → tupO o = true → H a = some o) (h : At C F H' m d v fp) (nd : fp.Nodup) (fr : ∀ a ∈ fp, H a = none) : Rep C F H' Γ σ ρ ((m, d, v) :: L) := by
  obtain ⟨f1, f2, nd2, a, b⟩ := r.own
  have oa := a.owned
  have ob := b.owned
  refine ⟨r.fit.alloc s nt, r.io, f1, fp ++ f2, ?_, a.mono (Same.refl _) (fun x hx => (oa x hx).1) (fun x hx => ?_) (.inr s), fp, f2, rfl, h, b.mono (Same.refl _) (fun x hx => (ob x hx).1) (fun x hx => ?_) (.inr s)⟩
  · have hf : ∀ x ∈ f1 ++ f2, x ∉ fp := fun x hx hy => by
      have hn := fr x hy
      rcases List.mem_append.mp hx with z | z
      · obtain ⟨_, _, o, e, _⟩ := oa x z; rw [hn] at e; cases e
      · obtain ⟨_, _, o, e, _⟩ := ob x z; rw [hn] at e; cases e
    refine List.Perm.nodup (l := fp ++ (f1 ++ f2)) ?_ ?_
    · rw [← List.append_assoc, ← List.append_assoc]
      exact List.Perm.append List.perm_append_comm (List.Perm.refl _)
    · exact List.nodup_append.mpr ⟨nd, nd2, fun x hx y hy e => hf y hy (e ▸ hx)⟩
  · obtain ⟨_, _, o, e, _⟩ := oa x hx
    rw [e]; exact s _ _ e
  · obtain ⟨_, _, o, e, _⟩ := ob x hx
    rw [e]; exact s _ _ e
theorem Exs.gather : ∀ {ms : List Md} {ds : List DV} {vs : List V} {L : List Ent} {f : List Addr}, Exs C F H (entsA ms ds vs L) f → (∀ x ∈ ms, x = m) → ms.length = vs.length → ds.length = vs.length →
    ∃ f1 f2, f.Perm (f1 ++ f2) ∧ Alls (At C F H m) ds vs f1 ∧ Exs C F H L f2
  | [], [], [], L, f, h, _, _, _ => ⟨[], f, List.Perm.refl _, ⟨rfl, rfl⟩, h⟩
  | [], d :: ds, [], L, f, h, _, _, e => by cases e
  | [], ds, v :: vs, L, f, h, _, e, _ => by cases e
  | a :: ms, ds, [], L, f, h, _, e, _ => by cases e
  | a :: ms, [], v :: vs, L, f, h, _, _, e => by cases e
  | a :: ms, d :: ds, v :: vs, L, f, h, q, e1, e2 => by
    obtain ⟨g1, g2, p, hA, h1, h2, e3, h3, h4⟩ := Exs.gather (ms := ms) (ds := ds) (vs := vs) h (fun x hx => q x (List.mem_cons_of_mem _ hx)) (by simpa using e1) (by simpa using e2)
    subst e3
    have ea : a = m := q a List.mem_cons_self
    subst ea
    refine ⟨h1 ++ g1, h2, p.trans ?_, ⟨v, vs, h1, g1, rfl, rfl, h3, hA⟩, h4⟩
    rw [← List.append_assoc]
    exact List.Perm.append List.perm_append_comm (List.Perm.refl _)
/-- a new node over the entries of an argument list -/
theorem Rep.node {ms : List Md} {ds : List DV} {vs : List V} {p : Addr} {o : HO} (r : Rep C F H Γ σ ρ (entsA ms ds vs L)) (q : ∀ x ∈ ms, x = m) (e1 : ms.length = vs.length) (e2 : ds.length = vs.length) (np : H p = none) (ho : tupO o = false) (hk : kids d = ds) (hd : isLD d = true) (hn : Node C.mg d vs o) :
    Rep C F (upd H p o) Γ σ ρ ((.own m, d, .ref p) :: L) := by
  obtain ⟨f1, f2, nd, a, b⟩ := r.own
  obtain ⟨g1, g2, pm, hA, hL⟩ := b.gather q e1 e2
  have oa := a.owned
  have ob := b.owned
  have s : Same H (upd H p o) := same_upd np
  have kp : ∀ x, Owned C F H x → upd H p o x = H x := fun x ⟨_, _, u, e, _⟩ => by rw [upd_ne (ne_of_none e np)]
  have ob1 : ∀ x ∈ g1, Owned C F H x := fun x hx => ob x (pm.mem_iff.mpr (List.mem_append_left _ hx))
  have ob2 : ∀ x ∈ g2, Owned C F H x := fun x hx => ob x (pm.mem_iff.mpr (List.mem_append_right _ hx))
  have hp : F p = none := Same.free r.fit.fh np
  have hb : C.Bp p = none := Same.free r.fit.bh np
  refine ⟨r.fit.alloc s (upd_nt np ho), r.io, f1, (p :: g1) ++ g2, ?_, a.mono (Same.refl _) (fun x hx => (oa x hx).1) (fun x hx => kp x (oa x hx)) (.inr s), p :: g1, g2, rfl, ?_, hL.mono (Same.refl _) (fun x hx => (ob2 x hx).1) (fun x hx => kp x (ob2 x hx)) (.inr s)⟩
  · refine List.Perm.nodup (l := p :: (f1 ++ f2)) ?_ ?_
    · refine (List.perm_middle (a := p) (l₁ := f1) (l₂ := f2)).symm.trans ?_
      exact List.Perm.append (List.Perm.refl _) (List.Perm.cons _ pm)
    · refine List.nodup_cons.mpr ⟨fun z => ?_, nd⟩
      rcases List.mem_append.mp z with z | z
      · obtain ⟨_, _, u, e, _⟩ := oa p z; rw [np] at e; cases e
      · obtain ⟨_, _, u, e, _⟩ := ob p z; rw [np] at e; cases e
  · unfold At
    rw [if_pos hd]
    refine ⟨p, vs, o, g1, rfl, hp, hb, upd_same, hn, rfl, ?_⟩
    rw [hk]
    exact hA.imp fun d v f hf x => x.mono (Same.refl _) (fun y hy => (ob1 y (hf y hy)).1) (fun y hy => kp y (ob1 y (hf y hy))) (.inr s)
def eLst (g : GA) : GE := fun ρ => (g ρ).bind fun ds => if ds.length ≤ sizeLine then .ok (.lst ds) else .stuck
theorem se_lst {t : TA} {g : GA} {ms : List Md} (h : SA C W Γ t g ms) (q : ∀ x ∈ ms, x = m) : SE C W Γ (tLst t) (eLst g) (.own m) := by
  intro F H σ ρ L Q hL r k
  show t σ H fun xs H1 => xs.length ≤ sizeLine ∧ ∀ p, H1 p = none → Q (.ref p) (upd H1 p (.lst xs))
  refine sa_then h hL r k fun ds F1 H1 vs s1 s2 e1 e2 r1 k1 => ?_
  split at k1
  · rename_i hz
    refine ⟨by rw [← e1]; exact hz, fun p np => ?_⟩
    exact k1 F1 _ _ (Same.refl _) (same_upd np) (r1.node q e2 e1 np rfl rfl rfl rfl)
  · exact k1.elim
/-- a new tuple over the entries of an argument list -/
theorem Rep.tuple {ms : List Md} {ds : List DV} {vs : List V} {p : Addr} (r : Rep C F H Γ σ ρ (entsA ms ds vs L)) (q : ∀ x ∈ ms, x = m) (e1 : ms.length = vs.length) (e2 : ds.length = vs.length) (np : H p = none) :
    Same F (upd F p (.tup vs)) ∧ Rep C (upd F p (.tup vs)) (upd H p (.tup vs)) Γ σ ρ ((.tu m, .tup ds, .ref p) :: L) := by
  obtain ⟨f1, f2, nd, a, b⟩ := r.own
  obtain ⟨g1, g2, pm, hA, hL⟩ := b.gather q e1 e2
  have oa := a.owned
  have ob := b.owned
  have s : Same H (upd H p (.tup vs)) := same_upd np
  have hp : F p = none := Same.free r.fit.fh np
  have hb : C.Bp p = none := Same.free r.fit.bh np
  have sf : Same F (upd F p (.tup vs)) := same_upd hp
  have kp : ∀ x, Owned C F H x → upd H p (.tup vs) x = H x := fun x ⟨_, _, u, e, _⟩ => by rw [upd_ne (ne_of_none e np)]
  have kf : ∀ x, Owned C F H x → upd F p (.tup vs) x = none := fun x ⟨h, _, u, e, _⟩ => by rw [upd_ne (ne_of_none e np)]; exact h
  have ob1 : ∀ x ∈ g1, Owned C F H x := fun x hx => ob x (pm.mem_iff.mpr (List.mem_append_left _ hx))
  have ob2 : ∀ x ∈ g2, Owned C F H x := fun x hx => ob x (pm.mem_iff.mpr (List.mem_append_right _ hx))
  refine ⟨sf, ⟨r.fit.ff.trans sf, fun x u e => ?_, r.fit.bh.trans s, fun x hx => ?_, fun x u e t => ?_⟩, r.io, f1, g1 ++ g2, ?_, a.mono sf (fun x hx => kf x (oa x hx)) (fun x hx => kp x (oa x hx)) (.inr s), g1, g2, rfl, ?_, hL.mono sf (fun x hx => kf x (ob2 x hx)) (fun x hx => kp x (ob2 x hx)) (.inr s)⟩
  · by_cases z : x = p
    · subst z; rw [upd_same] at e ⊢; exact e
    · rw [upd_ne z] at e ⊢; exact r.fit.fh _ _ e
  · by_cases z : x = p
    · subst z; exact .inr (.inl hb)
    · rw [upd_ne z] at hx; exact r.fit.f0 x hx
  · by_cases z : x = p
    · subst z; rw [upd_same] at e ⊢; exact e
    · rw [upd_ne z] at e ⊢; exact r.fit.tp x u e t
  · exact List.Perm.nodup (List.Perm.append (List.Perm.refl _) pm) nd
  · unfold At
    rw [if_pos (show isTup (DV.tup ds) = true from rfl)]
    refine ⟨p, vs, rfl, .inl (.inl upd_same), ?_⟩
    exact hA.imp fun d v f hf x => x.mono sf (fun y hy => kf y (ob1 y (hf y hy))) (fun y hy => kp y (ob1 y (hf y hy))) (.inr s)
def eTup (g : GA) : GE := fun ρ => (g ρ).bind fun ds => if ds.length ≤ sizeLine then .ok (.tup ds) else .stuck
theorem se_tupM {t : TA} {g : GA} {ms : List Md} (h : SA C W Γ t g ms) (q : ∀ x ∈ ms, x = m) : SE C W Γ (tTup t) (eTup g) (.tu m) := by
  intro F H σ ρ L Q hL r k
  show t σ H fun xs H1 => xs.length ≤ sizeLine ∧ ∀ p, H1 p = none → Q (.ref p) (upd H1 p (.tup xs))
  refine sa_then h hL r k fun ds F1 H1 vs s1 s2 e1 e2 r1 k1 => ?_
  split at k1
  · rename_i hz
    refine ⟨by rw [← e1]; exact hz, fun p np => ?_⟩
    obtain ⟨sf, r2⟩ := r1.tuple q e2 e1 np
    exact k1 _ _ _ sf (same_upd np) r2
  · exact k1.elim
theorem se_tup {t : TA} {g : GA} {ms : List Md} (h : SA C W Γ t g ms) (q : ∀ x ∈ ms, x = .fr) : SE C W Γ (tTup t) (eTup g) .fr := se_fr (se_tupM h q) rfl

/-! ### argument lists -/
def aNil : GA := fun _ => .ok []
def aCons (ga : GE) (gr : GA) : GA := fun ρ => (ga ρ).bind fun x => (gr ρ).bind fun xs => .ok (x :: xs)
theorem sa_nil : SA C W Γ tNil aNil [] := fun F H σ ρ L Q hL r k => k F H [] (Same.refl _) (Same.refl _) rfl rfl r
theorem sa_cons {ta : TE} {tr : TA} {ga : GE} {gr : GA} {ms : List Md} (ha : SE C W Γ ta ga m) (hr : SA C W Γ tr gr ms) (qo : (m.stor || m.free) = true := by rfl) : SA C W Γ (tCons ta tr) (aCons ga gr) (m :: ms) := by
  intro F H σ ρ L Q hL r k
  show ta σ H fun x H1 => tr σ H1 fun xs H2 => Q (x :: xs) H2
  refine se_thenA ha hL r k fun d F1 H1 x s1 s2 r1 k1 => ?_
  refine hr F1 H1 σ ρ _ _ (okL_cons qo hL) r1 ?_
  revert k1
  cases gr ρ with
  | ok ds => exact fun k1 F2 H2 vs s3 s4 e1 e2 r2 => k1 F2 H2 (x :: vs) s3 s4 (by rw [List.length_cons, List.length_cons, e1]) (by rw [List.length_cons, List.length_cons, e2]) r2
  | ex c d => exact fun k1 => k1
  | stuck => exact fun k1 => k1
end
end DL
end

/-! text DL4 -/
section
set_option maxRecDepth 100000
set_option maxHeartbeats 4000000
/-! the data layer, part 4: arithmetic, comparisons, tests, calls of built-ins, slices -/
namespace DL
open PySem PySem.Spec PyProof.Rows L2

section
variable {X : Cx} {pins : List (Addr × Obj)} {σ : L2.St} {H : Hp} {s : Shared}
theorem lstR {l : Addr} {xs : List V} (I : Inv X pins σ H s) (hH : Rd H l (.lst xs)) : xs.length ≤ sizeLine ∧ ∃ (its : List Value) (n : Nat), Vals xs its ∧ xs.length = its.length ∧ s.heap.get? l = some { cls := .type "list", data := .seq its.toArray n } := by
  obtain ⟨z, its, n, r, e⟩ := hH.ok I.hok
  exact ⟨z, its, n, r, r.length, e⟩
def rCatR : R2 := fun x y H Q => ∃ l b xs zs, x = .ref l ∧ y = .ref b ∧ Rd H l (.lst xs) ∧ Rd H b (.lst zs) ∧ xs.length + zs.length ≤ sizeLine ∧ ∀ p, H p = none → Q (.ref p) (upd H p (.lst (xs ++ zs)))
theorem op_catR : OpR X (binaryOp .Add) rCatR := by
  intro pins s σ H x y v u Q I rx ry h
  obtain ⟨l, b, xs, zs, rfl, rfl, hH, hB, hz, q⟩ := h
  cases rx
  cases ry
  obtain ⟨z, its, n, r, hl, e⟩ := lstR I hH
  obtain ⟨z2, its2, n2, r2, hl2, e2⟩ := lstR I hB
  refine PySem.P.add_list e e2 ?_ (by rw [List.size_toArray, List.size_toArray]; omega)
  have ea : its.toArray ++ its2.toArray = (its ++ its2).toArray := by simp
  rw [ea]
  exact ⟨.ref _, _, I.lnew (t' := s.toks) (r.append r2) (by rw [List.length_append]; omega), rfl, q _ I.fresh⟩
end

section
variable {C : Cxt} {W : Wx} {F F' H H' : Hp} {Γ : List Md} {σ : L2.St} {ρ : EnvD} {L : List Ent} {m ma mb : Md} {d : DV} {v : V}
theorem Rep.newl {ds : List DV} {vs : List V} {p : Addr} (r : Rep C F H Γ σ ρ L) (np : H p = none) (hA : Alls (At C F H m) ds vs []) : Rep C F (upd H p (.lst vs)) Γ σ ρ ((.own m, .lst ds, .ref p) :: L) := by
  have s : Same H (upd H p (.lst vs)) := same_upd np
  refine r.new s (upd_nt np rfl) (fp := [p]) ?_ (by simp) (fun a ha => by rw [List.mem_singleton.mp ha]; exact np)
  unfold At
  rw [if_pos (show isLD (.lst ds) = true from rfl)]
  exact ⟨p, vs, _, [], rfl, Same.free r.fit.fh np, Same.free r.fit.bh np, upd_same, rfl, rfl, hA.imp fun d v f hf x => x.mono (Same.refl _) (fun a ha => absurd (hf a ha) (List.not_mem_nil)) (fun a ha => absurd (hf a ha) (List.not_mem_nil)) (.inr s)⟩
theorem Alls.take {R : DV → V → List Addr → Prop} : ∀ {ds : List DV} {vs : List V} (n : Nat), Alls R ds vs [] → Alls R (ds.take n) (vs.take n) []
  | _, _, 0, _ => ⟨rfl, rfl⟩
  | [], _, n + 1, h => by rw [h.1]; exact ⟨rfl, rfl⟩
  | d :: ds, _, n + 1, ⟨v, r, f1, f2, h1, h2, h3, h4⟩ => by
    subst h1
    obtain ⟨e1, e2⟩ := List.append_eq_nil_iff.mp h2.symm
    subst e1
    subst e2
    exact ⟨v, _, [], [], rfl, rfl, h3, Alls.take n h4⟩
theorem Alls.drop {R : DV → V → List Addr → Prop} : ∀ {ds : List DV} {vs : List V} (n : Nat), Alls R ds vs [] → Alls R (ds.drop n) (vs.drop n) []
  | _, _, 0, h => h
  | [], _, n + 1, h => by rw [h.1]; exact ⟨rfl, rfl⟩
  | d :: ds, _, n + 1, ⟨v, r, f1, f2, h1, h2, h3, h4⟩ => by
    subst h1
    obtain ⟨e1, e2⟩ := List.append_eq_nil_iff.mp h2.symm
    subst e1
    subst e2
    exact Alls.drop n h4

/-! ### arithmetic -/
def dCat : OpD := fun x y => match x, y with
  | .lst xs, .lst ys => if xs.length + ys.length ≤ sizeLine then .ok (.lst (xs ++ ys)) else .stuck
  | _, _ => .stuck
def dCatT : OpD := fun x y => match x, y with
  | .tup xs, .tup ys => if xs.length + ys.length ≤ sizeLine then .ok (.tup (xs ++ ys)) else .stuck
  | _, _ => .stuck
def dCatS : OpD := fun x y => match x, y with
  | .str x, .str y => if x.length + y.length ≤ sizeLine then .ok (.str (x ++ y)) else .stuck
  | _, _ => .stuck
def tt2 : Int → Int → Bool := fun _ _ => true
def dAdd : OpD := opOr (dII tt2 fun i j => .int (i + j)) (opOr dCat dCatS)
abbrev rCatS : R2 := fun x y H Q => ∃ i j, x = .str i ∧ y = .str j ∧ i.length + j.length ≤ sizeLine ∧ Q (.str (i ++ j)) H
abbrev rAddX : R2 := rOr (rI0 fun i j => .int (i + j)) (rOr rCatR rCatS)
theorem op_addX {X : Cx} : OpR X (binaryOp .Add) rAddX := OpR_or op_add (OpR_or op_catR op_add_str)
theorem os_cat (qa : ma.ixok = true) (qb : mb.ixok = true) (ra : ma.rd = true) (rb : mb.rd = true) (ka : ma.kid = m) (kb : mb.kid = m) : OpS C W rCatR dCat ma mb (.own m) := by
  intro Γ F H σ ρ L x y dx dy Q r k
  unfold dCat at k
  split at k
  · rename_i xs ys
    obtain ⟨a, vs, h1, h2, h3⟩ := r.tail.items qa
    obtain ⟨b, ws, g1, g2, g3⟩ := r.items qb
    rw [ka] at h3
    rw [kb] at g3
    split at k
    · rename_i hz
      refine ⟨a, b, vs, ws, h1, g1, h2.2 ra, g2.2 rb, by rw [← h3.length, ← g3.length]; exact hz, fun p np => ?_⟩
      exact k F _ _ (Same.refl _) (same_upd np) (r.tail.tail.newl np (h3.append g3))
    · exact k.elim
  · exact k.elim
theorem os_catS (ra : ma.rd = true) (rb : mb.rd = true) (q : m.rd = true) : OpS C W rCatS dCatS ma mb m := by
  intro Γ F H σ ρ L x y dx dy Q r k
  obtain ⟨h1, h2⟩ := r.da2 ra rb
  unfold dCatS at k
  split at k
  · split at k
    · rename_i hz
      exact ⟨_, _, h1, h2, hz, k.flat r.tail.tail q rfl⟩
    · exact k.elim
  · exact k.elim
theorem os_add (qa : ma.ixok = true := by rfl) (qb : mb.ixok = true := by rfl) (ra : ma.rd = true := by rfl) (rb : mb.rd = true := by rfl) (ka : ma.kid = .fr := by rfl) (kb : mb.kid = .fr := by rfl) : OpS C W rAddX dAdd ma mb (.own .fr) :=
  (ops_ii0 ra rb rfl fun _ _ => rfl).or ((os_cat qa qb ra rb ka kb).or (os_catS ra rb rfl))
def dSub : OpD := dII tt2 fun i j => .int (i - j)
theorem os_sub (ra : ma.rd = true := by rfl) (rb : mb.rd = true := by rfl) : OpS C W (rI0 fun i j => .int (i - j)) dSub ma mb .fr := ops_ii0 ra rb rfl fun _ _ => rfl
def mulOk (i j : Int) : Bool := decide (i.natAbs < 2 ^ 64) || (decide (j.natAbs < 2 ^ 64) || decide (i.natAbs.log2 + j.natAbs.log2 < 1000000))
theorem bits64 {i : Int} (h : i.natAbs < 2 ^ 64) : Builtin.Int.intBits i ≤ 64 := by
  have z := PySem.Flt.log2_lt_of (by decide : 0 < 64) h
  unfold Builtin.Int.intBits
  split <;> omega
theorem mulOk_ok {i j : Int} (h : mulOk i j = true) : IntMulOk i j := by
  rcases (Bool.or_eq_true _ _).mp h with h | h
  · exact IntMulOk.of_left (bits64 (of_decide_eq_true h))
  · rcases (Bool.or_eq_true _ _).mp h with h | h
    · exact IntMulOk.of_right (bits64 (of_decide_eq_true h))
    · have h2 : i.natAbs.log2 + j.natAbs.log2 < 1000000 := of_decide_eq_true h
      exact CMulW.ok h2
theorem op_mulX {X : Cx} : OpR X (binaryOp .Mult) (rI IntMulOk fun i j => .int (i * j)) := opI fun _ _ _ _ _ _ _ hc q => mul_int q hc
def dMul : OpD := dII mulOk fun i j => .int (i * j)
theorem os_mul (ra : ma.rd = true := by rfl) (rb : mb.rd = true := by rfl) : OpS C W (rI IntMulOk fun i j => .int (i * j)) dMul ma mb .fr := ops_ii ra rb rfl (fun _ _ h => mulOk_ok h) fun _ _ => rfl
def divOk (_ j : Int) : Bool := decide (0 < j) && decide (j.natAbs.log2 < 9000)
def divOkN (_ j : Int) : Bool := decide (j ≠ 0) && decide (j.natAbs < 1073741824)
def dDiv : OpD := opOr (dII divOk fun i j => .int (i / j)) (dII divOkN fun i j => .int (i.fdiv j))
abbrev rDivX : R2 := rOr (rI CDivW fun i j => .int (i / j)) (rI CDivN fun i j => .int (i.fdiv j))
theorem op_divX {X : Cx} : OpR X (binaryOp .FloorDiv) rDivX := OpR_or op_fdivW op_fdivN
theorem os_div (ra : ma.rd = true := by rfl) (rb : mb.rd = true := by rfl) : OpS C W rDivX dDiv ma mb .fr :=
  (ops_ii ra rb rfl (fun _ _ h => ⟨of_decide_eq_true ((Bool.and_eq_true _ _).mp h).1, of_decide_eq_true ((Bool.and_eq_true _ _).mp h).2⟩) fun _ _ => rfl).or
    (ops_ii ra rb rfl (fun _ _ h => ⟨of_decide_eq_true ((Bool.and_eq_true _ _).mp h).1, of_decide_eq_true ((Bool.and_eq_true _ _).mp h).2⟩) fun _ _ => rfl)
def dMod : OpD := opOr (dII (fun _ j => decide (0 < j)) fun i j => .int (i % j)) (dII (fun _ j => decide (j ≠ 0)) fun i j => .int (i.fmod j))
abbrev rModX : R2 := rOr (rI (fun _ j => 0 < j) fun i j => .int (i % j)) (rI (fun _ j => j ≠ 0) fun i j => .int (i.fmod j))
theorem op_modX {X : Cx} : OpR X (binaryOp .Mod) rModX := OpR_or op_mod op_modN
theorem os_mod (ra : ma.rd = true := by rfl) (rb : mb.rd = true := by rfl) : OpS C W rModX dMod ma mb .fr :=
  (ops_ii ra rb rfl (fun _ _ h => of_decide_eq_true h) fun _ _ => rfl).or (ops_ii ra rb rfl (fun _ _ h => of_decide_eq_true h) fun _ _ => rfl)
def powOk (i j : Int) : Bool := decide (0 ≤ j) && (decide (j ≤ 1000000) && decide (i.natAbs < 2 ^ 64))
theorem powOk_ok {i j : Int} (h : powOk i j = true) : CPow i j := by
  have h1 := (Bool.and_eq_true _ _).mp h
  have h2 := (Bool.and_eq_true _ _).mp h1.2
  exact ⟨of_decide_eq_true h1.1, of_decide_eq_true h2.1, of_decide_eq_true h2.2⟩
def dPow : OpD := dII powOk fun i j => .int (i ^ j.toNat)
theorem os_pow (ra : ma.rd = true := by rfl) (rb : mb.rd = true := by rfl) : OpS C W (rI CPow fun i j => .int (i ^ j.toNat)) dPow ma mb .fr := ops_ii ra rb rfl (fun _ _ h => powOk_ok h) fun _ _ => rfl
def dShl : OpD := dII powOk fun i j => .int (i * 2 ^ j.toNat)
theorem os_shl (ra : ma.rd = true := by rfl) (rb : mb.rd = true := by rfl) : OpS C W (rI CPow fun i j => .int (i * 2 ^ j.toNat)) dShl ma mb .fr := ops_ii ra rb rfl (fun _ _ h => powOk_ok h) fun _ _ => rfl
def dShr : OpD := dII (fun _ j => decide (0 ≤ j)) fun i j => .int (i / 2 ^ j.toNat)
theorem os_shr (ra : ma.rd = true := by rfl) (rb : mb.rd = true := by rfl) : OpS C W (rI (fun _ j => 0 ≤ j) fun i j => .int (i / 2 ^ j.toNat)) dShr ma mb .fr := ops_ii ra rb rfl (fun _ _ h => of_decide_eq_true h) fun _ _ => rfl
def dAnd : OpD := dII tt2 fun i j => .int (Builtin.bitAnd i j)
theorem os_and (ra : ma.rd = true := by rfl) (rb : mb.rd = true := by rfl) : OpS C W (rI0 fun i j => .int (Builtin.bitAnd i j)) dAnd ma mb .fr := ops_ii0 ra rb rfl fun _ _ => rfl
def dOr : OpD := dII tt2 fun i j => .int (Builtin.bitOr i j)
theorem os_or (ra : ma.rd = true := by rfl) (rb : mb.rd = true := by rfl) : OpS C W (rI0 fun i j => .int (Builtin.bitOr i j)) dOr ma mb .fr := ops_ii0 ra rb rfl fun _ _ => rfl
def dXor : OpD := dII tt2 fun i j => .int (Builtin.bitXor i j)
theorem os_xor (ra : ma.rd = true := by rfl) (rb : mb.rd = true := by rfl) : OpS C W (rI0 fun i j => .int (Builtin.bitXor i j)) dXor ma mb .fr := ops_ii0 ra rb rfl fun _ _ => rfl
/-- [e] * n -/
def dRep : OpD := fun x y => match x, y with
  | .lst xs, .int k => if xs.length * k.toNat ≤ sizeLine ∧ -(2 ^ 63) ≤ k ∧ k < 2 ^ 63 then .ok (.lst (List.replicate k.toNat xs).flatten) else .stuck
  | _, _ => .stuck
theorem Alls.flat {R : DV → V → List Addr → Prop} {ds : List DV} {vs : List V} (h : Alls R ds vs []) : ∀ n : Nat, Alls R (List.replicate n ds).flatten (List.replicate n vs).flatten []
  | 0 => ⟨rfl, rfl⟩
  | n + 1 => by
    rw [List.replicate_succ, List.replicate_succ, List.flatten_cons, List.flatten_cons]
    exact h.append (Alls.flat h n)
theorem os_rep (rb : mb.rd = true := by rfl) : OpS C W rRep dRep (.own .fr) mb (.own .fr) := by
  intro Γ F H σ ρ L x y dx dy Q r k
  have hy := r.da rb
  obtain ⟨f, hx⟩ := r.tail.head
  unfold dRep at k
  split at k
  · rename_i xs j
    unfold At at hx
    rw [if_pos (show isLD (.lst xs) = true from rfl)] at hx
    obtain ⟨a, vs, o, fc, h1, h2, h3, h4, h5, h6, h7⟩ := hx
    obtain rfl : o = .lst vs := h5
    have h8 : Alls (At C F H .fr) xs vs [] := h7.pt fun d v f x => ⟨rfl, x.2⟩
    split at k
    · rename_i hz
      refine ⟨a, j, vs, h1, hy, h4, hz.2.1, hz.2.2, by rw [← h8.length]; exact hz.1, fun p np => ?_⟩
      exact k F _ _ (Same.refl _) (same_upd np) (r.tail.tail.newl np (h8.flat _))
    · exact k.elim
  · exact k.elim

/-! ### comparisons -/
def dLt : OpD := dII tt2 fun i j => .bl (decide (i < j))
def dLe : OpD := dII tt2 fun i j => .bl (decide (i ≤ j))
def dGt : OpD := dII tt2 fun i j => .bl (decide (j < i))
def dGe : OpD := dII tt2 fun i j => .bl (decide (j ≤ i))
theorem os_lt (ra : ma.rd = true := by rfl) (rb : mb.rd = true := by rfl) : OpS C W (rI0 fun i j => .bl (decide (i < j))) dLt ma mb .fr := ops_ii0 ra rb rfl fun _ _ => rfl
theorem os_le (ra : ma.rd = true := by rfl) (rb : mb.rd = true := by rfl) : OpS C W (rI0 fun i j => .bl (decide (i ≤ j))) dLe ma mb .fr := ops_ii0 ra rb rfl fun _ _ => rfl
theorem os_gt (ra : ma.rd = true := by rfl) (rb : mb.rd = true := by rfl) : OpS C W (rI0 fun i j => .bl (decide (j < i))) dGt ma mb .fr := ops_ii0 ra rb rfl fun _ _ => rfl
theorem os_ge (ra : ma.rd = true := by rfl) (rb : mb.rd = true := by rfl) : OpS C W (rI0 fun i j => .bl (decide (j ≤ i))) dGe ma mb .fr := ops_ii0 ra rb rfl fun _ _ => rfl
def isNonD : DV → Bool
  | .non => true
  | _ => false
def dIsN : OpD := fun x y => match y with
  | .non => .ok (.bl (isNonD x))
  | _ => .stuck
def dNotN : OpD := fun x y => match y with
  | .non => .ok (.bl (!isNonD x))
  | _ => .stuck
theorem da_non {K : PySem.W.Frag} {mg : Str → Option Value} {d : DV} {v : V} (h : DA K mg H d v) : decide (v = .non) = isNonD d := by
  cases d with
  | non => cases h; rfl
  | bl b => cases h; rfl
  | int i => cases h; rfl
  | str x => cases h; rfl
  | tup ds => obtain ⟨a, vs, rfl, _⟩ := h; rfl
  | lst ds => obtain ⟨a, vs, rfl, _⟩ := h; rfl
  | dct ks ds => obtain ⟨a, vs, rfl, _⟩ := h; rfl
  | obj c ns ds => obtain ⟨a, vs, rfl, _⟩ := h; rfl
abbrev rIsN : R2 := fun x y H Q => y = .non ∧ Q (.bl (decide (x = .non))) H
abbrev rNotN : R2 := fun x y H Q => y = .non ∧ Q (.bl (!decide (x = .non))) H
theorem os_isN (ra : ma.rd = true := by rfl) (rb : mb.rd = true := by rfl) : OpS C W rIsN dIsN ma mb .fr := by
  intro Γ F H σ ρ L x y dx dy Q r k
  obtain ⟨h1, h2⟩ := r.da2 ra rb
  unfold dIsN at k
  split at k
  · refine ⟨h2, ?_⟩
    rw [da_non h1]
    exact k.flat r.tail.tail rfl rfl
  · exact k.elim
theorem os_notN (ra : ma.rd = true := by rfl) (rb : mb.rd = true := by rfl) : OpS C W rNotN dNotN ma mb .fr := by
  intro Γ F H σ ρ L x y dx dy Q r k
  obtain ⟨h1, h2⟩ := r.da2 ra rb
  unfold dNotN at k
  split at k
  · refine ⟨h2, ?_⟩
    rw [da_non h1]
    exact k.flat r.tail.tail rfl rfl
  · exact k.elim
/-! equality -/
mutual
def py : DV → PyData
  | .non => .none
  | .bl b => .bool b
  | .int i => .int i
  | .str x => .str x
  | .tup ds => .tuple (pys ds)
  | .lst ds => .list (pys ds)
  | .dct _ _ => .none
  | .obj _ _ _ => .none
def pys : List DV → List PyData
  | [] => []
  | d :: ds => py d :: pys ds
end
mutual
def eqok : DV → Nat → Bool
  | .non, _ => true
  | .bl _, _ => true
  | .int _, _ => true
  | .str x, _ => PyData.strOk x
  | .tup ds, n => match n with
    | 0 => false
    | n + 1 => eqoks ds n
  | .lst ds, n => match n with
    | 0 => false
    | n + 1 => eqoks ds n
  | .dct _ _, _ => false
  | .obj _ _ _, _ => false
def eqoks : List DV → Nat → Bool
  | [], _ => true
  | d :: ds, n => eqok d n && eqoks ds n
end
mutual
theorem eqok_ok : ∀ (d : DV) (n : Nat), eqok d n = true → (py d).canLay0 = true ∧ (py d).depth ≤ n
  | .non, _, _ => ⟨rfl, Nat.zero_le _⟩
  | .bl _, _, _ => ⟨rfl, Nat.zero_le _⟩
  | .int _, _, _ => ⟨rfl, Nat.zero_le _⟩
  | .str _, _, h => ⟨h, Nat.zero_le _⟩
  | .tup ds, 0, h => by cases h
  | .tup ds, n + 1, h => by
    obtain ⟨h1, h2⟩ := eqoks_ok ds n h
    exact ⟨h1, Nat.succ_le_succ h2⟩
  | .lst ds, 0, h => by cases h
  | .lst ds, n + 1, h => by
    obtain ⟨h1, h2⟩ := eqoks_ok ds n h
    exact ⟨h1, Nat.succ_le_succ h2⟩
  | .dct _ _, _, h => by cases h
  | .obj _ _ _, _, h => by cases h
theorem eqoks_ok : ∀ (ds : List DV) (n : Nat), eqoks ds n = true → PyData.canLayAll0 (pys ds) = true ∧ PyData.depthAll (pys ds) ≤ n
  | [], _, _ => ⟨rfl, Nat.zero_le _⟩
  | d :: ds, n, h => by
    obtain ⟨h1, h2⟩ := (Bool.and_eq_true _ _).mp (show (eqok d n && eqoks ds n) = true from h)
    obtain ⟨a1, a2⟩ := eqok_ok d n h1
    obtain ⟨b1, b2⟩ := eqoks_ok ds n h2
    refine ⟨(Bool.and_eq_true _ _).mpr ⟨a1, b1⟩, Nat.max_le.mpr ⟨a2, b2⟩⟩
end
mutual
theorem da_dp {K : PySem.W.Frag} {mg : Str → Option Value} : ∀ (d : DV) (n : Nat) (v : V), eqok d n = true → DA K mg H d v → Dp K H v (py d)
  | .non, _, _, _, h => by cases h; exact .non
  | .bl _, _, _, _, h => by cases h; exact .bl _
  | .int _, _, _, _, h => by cases h; exact .int _
  | .str _, _, _, _, h => by cases h; exact .str _
  | .tup ds, 0, _, q, _ => by cases q
  | .tup ds, n + 1, _, q, h => by
    obtain ⟨a, vs, rfl, h2, h3⟩ := h
    exact .tup h2 (das_dp ds n vs q h3)
  | .lst ds, 0, _, q, _ => by cases q
  | .lst ds, n + 1, _, q, h => by
    obtain ⟨a, vs, rfl, h2, h3⟩ := h
    exact .lst (.inl h2) (das_dp ds n vs q h3)
  | .dct _ _, _, _, q, _ => by cases q
  | .obj _ _ _, _, _, q, _ => by cases q
theorem das_dp {K : PySem.W.Frag} {mg : Str → Option Value} : ∀ (ds : List DV) (n : Nat) (vs : List V), eqoks ds n = true → DAs K mg H ds vs → DpAll K H vs (pys ds)
  | [], _, _, _, h => by cases h; exact .nil
  | d :: ds, n, _, q, h => by
    obtain ⟨v, r, rfl, h2, h3⟩ := h
    obtain ⟨q1, q2⟩ := (Bool.and_eq_true _ _).mp (show (eqok d n && eqoks ds n) = true from q)
    exact .cons (da_dp d n v q1 h2) (das_dp ds n r q2 h3)
end
def eqv (x y : DV) : Bool := PyData.eqv (py x) (py y)
def dEq : OpD := fun x y => if (eqok x 20 && eqok y 20) = true then .ok (.bl (eqv x y)) else .stuck
def dNe : OpD := fun x y => if (eqok x 20 && eqok y 20) = true then .ok (.bl (!eqv x y)) else .stuck
theorem shaped_ok {d : DV} (h : eqok d 20 = true) : SeqAt.shaped (py d) = true := by
  obtain ⟨h1, h2⟩ := eqok_ok d 20 h
  unfold SeqAt.shaped
  rw [h1]
  exact decide_eq_true (Nat.le_trans h2 (by decide))
theorem os_eq (ra : ma.rd = true := by rfl) (rb : mb.rd = true := by rfl) : OpS C W (rEqD C.K) dEq ma mb .fr := by
  intro Γ F H σ ρ L x y dx dy Q r k
  obtain ⟨h1, h2⟩ := r.da2 ra rb
  unfold dEq at k
  split at k
  · rename_i q
    obtain ⟨q1, q2⟩ := (Bool.and_eq_true _ _).mp q
    exact ⟨py dx, py dy, da_dp dx 20 x q1 h1, da_dp dy 20 y q2 h2, shaped_ok q1, shaped_ok q2, k.flat r.tail.tail rfl rfl⟩
  · exact k.elim
theorem os_ne (ra : ma.rd = true := by rfl) (rb : mb.rd = true := by rfl) : OpS C W (rNeD C.K) dNe ma mb .fr := by
  intro Γ F H σ ρ L x y dx dy Q r k
  obtain ⟨h1, h2⟩ := r.da2 ra rb
  unfold dNe at k
  split at k
  · rename_i q
    obtain ⟨q1, q2⟩ := (Bool.and_eq_true _ _).mp q
    exact ⟨py dx, py dy, da_dp dx 20 x q1 h1, da_dp dy 20 y q2 h2, shaped_ok q1, shaped_ok q2, k.flat r.tail.tail rfl rfl⟩
  · exact k.elim
/-! membership -/
def flats : List DV → Option (List V)
  | [] => some []
  | d :: ds => match flat d, flats ds with
    | some v, some vs => some (v :: vs)
    | _, _ => none
theorem flats_ok {K : PySem.W.Frag} {mg : Str → Option Value} : ∀ {ds : List DV} {vs ws : List V}, flats ds = some ws → DAs K mg H ds vs → vs = ws
  | [], vs, ws, h, k => by cases h; exact k
  | d :: ds, vs, ws, h, ⟨v, r, e, h1, h2⟩ => by
    unfold flats at h
    split at h
    · rename_i w us a b
      cases h
      rw [e, da_flat a h1, flats_ok b h2]
    · cases h
theorem flat_flat {d : DV} {v : V} (h : flat d = some v) : flatV v = true := by
  cases d <;> first | cases h; rfl | cases h
theorem flats_flat : ∀ {ds : List DV} {ws : List V}, flats ds = some ws → ws.all flatV = true
  | [], ws, h => by cases h; rfl
  | d :: ds, ws, h => by
    unfold flats at h
    split at h
    · rename_i w us a b
      cases h
      rw [List.all_cons, flat_flat a, flats_flat b]
      rfl
    · cases h
def dInB (x y : DV) : Rs Bool := match y with
  | .lst ys => if (eqok x 20 && eqok (.lst ys) 20) = true then .ok (ys.any fun z => eqv z x) else .stuck
  | .tup ys => match flat x, flats ys with
    | some x, some ys => .ok (inV x ys)
    | _, _ => .stuck
  | _ => .stuck
def dIn : OpD := fun x y => (dInB x y).bind fun b => .ok (.bl b)
def dNotIn : OpD := fun x y => (dInB x y).bind fun b => .ok (.bl (!b))
abbrev rInX (K : PySem.W.Frag) : R2 := rOr (rInD K) (rIn K false)
abbrev rNotInX (K : PySem.W.Frag) : R2 := rOr (rNotInD K) (rIn K true)
theorem op_inX {X : Cx} (hu : X.A.units + 65 < cLine) : OpR X (compareOp .In) (rInX X.K) := OpR_or (op_inD hu) op_in_seq
theorem op_notInX {X : Cx} (hu : X.A.units + 65 < cLine) : OpR X (compareOp .NotIn) (rNotInX X.K) := OpR_or (op_notInD hu) op_notIn_seq
theorem pys_map : ∀ ds : List DV, pys ds = ds.map py
  | [] => rfl
  | d :: ds => by show py d :: pys ds = _; rw [pys_map ds]; rfl
theorem any_pys (ys : List DV) (x : DV) : (pys ys).any (fun z => PyData.eqv z (py x)) = ys.any fun z => eqv z x := by
  rw [pys_map, List.any_map]
  rfl
theorem os_in (ra : ma.rd = true := by rfl) (rb : mb.rd = true := by rfl) : OpS C W (rInX C.K) dIn ma mb .fr := by
  intro Γ F H σ ρ L x y dx dy Q r k
  obtain ⟨h1, h2⟩ := r.da2 ra rb
  unfold dIn dInB at k
  split at k
  · rename_i ys
    split at k
    · rename_i q
      obtain ⟨q1, q2⟩ := (Bool.and_eq_true _ _).mp q
      refine .inl ⟨py dx, pys ys, da_dp dx 20 x q1 h1, da_dp _ 20 y q2 h2, shaped_ok q1, shaped_ok q2, ?_⟩
      rw [any_pys]
      exact k.flat r.tail.tail rfl rfl
    · exact k.elim
  · rename_i ys
    split at k
    · rename_i x' ys' e1 e2
      obtain ⟨a, vs, g1, g2, g3⟩ := h2
      have e3 := flats_ok e2 g3
      have e4 := da_flat e1 h1
      subst e3
      subst e4
      exact .inr ⟨a, _, g1, .inr g2, flat_flat e1, flats_flat e2, k.flat r.tail.tail rfl rfl⟩
    · exact k.elim
  · exact k.elim
theorem os_notIn (ra : ma.rd = true := by rfl) (rb : mb.rd = true := by rfl) : OpS C W (rNotInX C.K) dNotIn ma mb .fr := by
  intro Γ F H σ ρ L x y dx dy Q r k
  obtain ⟨h1, h2⟩ := r.da2 ra rb
  unfold dNotIn dInB at k
  split at k
  · rename_i ys
    split at k
    · rename_i q
      obtain ⟨q1, q2⟩ := (Bool.and_eq_true _ _).mp q
      refine .inl ⟨py dx, pys ys, da_dp dx 20 x q1 h1, da_dp _ 20 y q2 h2, shaped_ok q1, shaped_ok q2, ?_⟩
      rw [any_pys]
      exact k.flat r.tail.tail rfl rfl
    · exact k.elim
  · rename_i ys
    split at k
    · rename_i x' ys' e1 e2
      obtain ⟨a, vs, g1, g2, g3⟩ := h2
      have e3 := flats_ok e2 g3
      have e4 := da_flat e1 h1
      subst e3
      subst e4
      exact .inr ⟨a, _, g1, .inr g2, flat_flat e1, flats_flat e2, k.flat r.tail.tail rfl rfl⟩
    · exact k.elim
  · exact k.elim
end
end DL
end

/-! text DL5 -/
section
set_option maxRecDepth 100000
set_option maxHeartbeats 4000000
/-! the data layer, part 5: tests, built-ins, slices -/
namespace DL
open PySem PySem.Spec PyProof.Rows L2

section
variable {C : Cxt} {W : Wx} {F F' H H' : Hp} {Γ : List Md} {σ : L2.St} {ρ : EnvD} {L : List Ent} {m ma mb mc : Md} {d : DV} {v : V}
theorem Rep.perm (r : Rep C F H Γ σ ρ L) : Rep C F H Γ σ ρ L := r
/-! ### tests -/
def asB : DV → Rs Bool
  | .bl b => .ok b
  | _ => .stuck
def gB (g : GE) : GT := fun ρ => (g ρ).bind asB
theorem st_b {t : TE} {g : GE} (h : SE C W Γ t g m) (q : m.rd = true := by rfl) : ST C W Γ (tB t) (gB g) := by
  intro F H σ ρ L Q hL r k
  show t σ H fun x H1 => ∃ c, x = .bl c ∧ Q c H1
  refine se_thenT h hL r k fun d F1 H1 x s1 s2 r1 k1 => ?_
  have hd := r1.da q
  cases d with
  | bl b => exact ⟨b, hd, k1 F1 H1 (Same.refl _) (Same.refl _) r1.tail⟩
  | _ => exact k1.elim
def asT : DV → Rs Bool
  | .non => .ok false
  | .bl b => .ok b
  | .int i => .ok (i != 0)
  | .lst ds => .ok (!ds.isEmpty)
  | .tup ds => .ok (!ds.isEmpty)
  | _ => .stuck
def gTru (g : GE) : GT := fun ρ => (g ρ).bind asT
theorem isE {ds : List DV} {vs : List V} (h : ds.length = vs.length) : (!ds.isEmpty) = !vs.isEmpty := by
  cases ds <;> cases vs <;> first | rfl | cases h
theorem st_tru {t : TE} {g : GE} (h : SE C W Γ t g m) (q : m.rd = true := by rfl) : ST C W Γ (tTru C.K t) (gTru g) := by
  intro F H σ ρ L Q hL r k
  show t σ H fun x H1 => ∃ c, TruV C.K x H1 c ∧ Q c H1
  refine se_thenT h hL r k fun d F1 H1 x s1 s2 r1 k1 => ?_
  have hd := r1.da q
  have fin : ∀ b, PT' C W Γ F1 H1 σ ρ L Q (.ok b) → Q b H1 := fun b k => k F1 H1 (Same.refl _) (Same.refl _) r1.tail
  cases d with
  | non => cases hd; exact ⟨false, rfl, fin _ k1⟩
  | bl b => cases hd; exact ⟨b, rfl, fin _ k1⟩
  | int i => cases hd; exact ⟨_, rfl, fin _ k1⟩
  | lst ds =>
    obtain ⟨a, vs, rfl, h2, h3⟩ := hd
    exact ⟨_, .inl ⟨vs, .inl h2, isE h3.length⟩, fin _ k1⟩
  | tup ds =>
    obtain ⟨a, vs, rfl, h2, h3⟩ := hd
    exact ⟨_, .inr (.inl ⟨vs, h2, isE h3.length⟩), fin _ k1⟩
  | _ => exact k1.elim
def gAnd (a b : GT) : GT := fun ρ => (a ρ).bind fun c => if c = true then b ρ else .ok false
def gOr (a b : GT) : GT := fun ρ => (a ρ).bind fun c => if c = true then .ok true else b ρ
def gNot (a : GT) : GT := fun ρ => (a ρ).bind fun c => .ok (!c)
theorem st_and {t u : TT} {f g : GT} (h1 : ST C W Γ t f) (h2 : ST C W Γ u g) : ST C W Γ (tAnd t u) (gAnd f g) := by
  intro F H σ ρ L Q hL r k
  show t σ H fun c H1 => if c = true then u σ H1 Q else Q false H1
  refine st_thenT h1 hL r k fun b F1 H1 s1 s2 r1 k1 => ?_
  cases b with
  | true => rw [if_pos rfl] at k1 ⊢; exact h2 F1 H1 σ ρ L Q hL r1 k1
  | false => rw [if_neg Bool.false_ne_true] at k1 ⊢; exact k1 F1 H1 (Same.refl _) (Same.refl _) r1
theorem st_or {t u : TT} {f g : GT} (h1 : ST C W Γ t f) (h2 : ST C W Γ u g) : ST C W Γ (tOr t u) (gOr f g) := by
  intro F H σ ρ L Q hL r k
  show t σ H fun c H1 => if c = true then Q true H1 else u σ H1 Q
  refine st_thenT h1 hL r k fun b F1 H1 s1 s2 r1 k1 => ?_
  cases b with
  | false => rw [if_neg Bool.false_ne_true] at k1 ⊢; exact h2 F1 H1 σ ρ L Q hL r1 k1
  | true => rw [if_pos rfl] at k1 ⊢; exact k1 F1 H1 (Same.refl _) (Same.refl _) r1
theorem st_not {t : TT} {f : GT} (h : ST C W Γ t f) : ST C W Γ (tNot t) (gNot f) := by
  intro F H σ ρ L Q hL r k
  show t σ H fun c H1 => Q (!c) H1
  refine st_thenT h hL r k fun b F1 H1 s1 s2 r1 k1 => ?_
  exact k1 F1 H1 (Same.refl _) (Same.refl _) r1
/-! ### tests as values, choices -/
def gIf (c : GT) (a b : GE) : GE := fun ρ => (c ρ).bind fun z => if z = true then a ρ else b ρ
theorem se_if {t : TT} {ta tb : TE} {f : GT} {ga gb : GE} (h : ST C W Γ t f) (ha : SE C W Γ ta ga m) (hb : SE C W Γ tb gb m) : SE C W Γ (tIf t ta tb) (gIf f ga gb) m := by
  intro F H σ ρ L Q hL r k
  show t σ H fun c H1 => if c = true then ta σ H1 Q else tb σ H1 Q
  refine st_then h hL r k fun b F1 H1 s1 s2 r1 k1 => ?_
  cases b with
  | true => rw [if_pos rfl] at k1 ⊢; exact ha F1 H1 σ ρ L Q hL r1 k1
  | false => rw [if_neg Bool.false_ne_true] at k1 ⊢; exact hb F1 H1 σ ρ L Q hL r1 k1
def gAndV (a b : GE) : GE := fun ρ => ((a ρ).bind asB).bind fun c => if c = true then b ρ else .ok (.bl false)
def gOrV (a b : GE) : GE := fun ρ => ((a ρ).bind asB).bind fun c => if c = true then .ok (.bl true) else b ρ
def gNotV (a : GE) : GE := fun ρ => ((a ρ).bind asB).bind fun c => .ok (.bl (!c))
theorem bind2 {α β γ : Type} (r : Rs α) (f : α → Rs β) (g : β → Rs γ) : (r.bind f).bind g = r.bind fun x => (f x).bind g := by cases r <;> rfl
theorem se_andV {ta tb : TE} {ga gb : GE} (ha : SE C W Γ ta ga ma) (hb : SE C W Γ tb gb m) (qa : ma.rd = true := by rfl) (q : m.rd = true := by rfl) : SE C W Γ (tAndV ta tb) (gAndV ga gb) m := by
  intro F H σ ρ L Q hL r k
  show ta σ H fun x H1 => ∃ c, x = .bl c ∧ if c = true then tb σ H1 Q else Q (.bl false) H1
  unfold gAndV at k
  rw [bind2] at k
  refine se_then ha hL r k fun d F1 H1 x s1 s2 r1 k1 => ?_
  have hd := r1.da qa
  cases d with
  | bl c =>
    refine ⟨c, hd, ?_⟩
    cases c with
    | true => exact hb F1 H1 σ ρ L Q hL r1.tail k1
    | false => exact k1.flat r1.tail q rfl
  | _ => exact k1.elim
theorem se_orV {ta tb : TE} {ga gb : GE} (ha : SE C W Γ ta ga ma) (hb : SE C W Γ tb gb m) (qa : ma.rd = true := by rfl) (q : m.rd = true := by rfl) : SE C W Γ (tOrV ta tb) (gOrV ga gb) m := by
  intro F H σ ρ L Q hL r k
  show ta σ H fun x H1 => ∃ c, x = .bl c ∧ if c = true then Q (.bl true) H1 else tb σ H1 Q
  unfold gOrV at k
  rw [bind2] at k
  refine se_then ha hL r k fun d F1 H1 x s1 s2 r1 k1 => ?_
  have hd := r1.da qa
  cases d with
  | bl c =>
    refine ⟨c, hd, ?_⟩
    cases c with
    | false => exact hb F1 H1 σ ρ L Q hL r1.tail k1
    | true => exact k1.flat r1.tail q rfl
  | _ => exact k1.elim
theorem se_notV {ta : TE} {ga : GE} (ha : SE C W Γ ta ga ma) (qa : ma.rd = true := by rfl) : SE C W Γ (tNotV ta) (gNotV ga) .fr := by
  intro F H σ ρ L Q hL r k
  show ta σ H fun x H1 => ∃ c, x = .bl c ∧ Q (.bl (!c)) H1
  unfold gNotV at k
  rw [bind2] at k
  refine se_then ha hL r k fun d F1 H1 x s1 s2 r1 k1 => ?_
  have hd := r1.da qa
  cases d with
  | bl c => exact ⟨c, hd, k1.flat r1.tail rfl rfl⟩
  | _ => exact k1.elim
/-- not x of a test -/
def gNotT (f : GT) : GE := fun ρ => (f ρ).bind fun c => .ok (.bl (!c))
/-! a < b < c -/
def gChain (op op' : OpD) (ga gb gc : GE) : GE := fun ρ => (ga ρ).bind fun x => (gb ρ).bind fun y => (op x y).bind fun z => (asB z).bind fun k => if k = true then (gc ρ).bind fun w => op' y w else .ok (.bl false)
theorem se_chain {r r' : R2} {op op' : OpD} {ta tb tc : TE} {ga gb gc : GE} (ho : OpS C W r op ma mb .fr) (ho' : OpS C W r' op' mb mc .fr) (ha : SE C W Γ ta ga ma) (hb : SE C W Γ tb gb mb) (hc : SE C W Γ tc gc mc) (qa : ma.free = true := by rfl) (qb : mb.free = true := by rfl) :
    SE C W Γ (tChain r r' ta tb tc) (gChain op op' ga gb gc) .fr := by
  intro F H σ ρ L Q hL r0 k
  show ta σ H fun x H1 => tb σ H1 fun y H2 => r x y H2 fun z H3 => ∃ k, z = .bl k ∧ (if k = true then tc σ H3 fun w' H4 => r' y w' H4 Q else Q (.bl false) H3)
  refine se_then ha hL r0 k fun dx F1 H1 x s1 s2 r1 k1 => ?_
  refine se_then hb (okL_cons (show (ma.stor || ma.free) = true by rw [qa, Bool.or_true]) hL) r1 k1 fun dy F2 H2 y s3 s4 r2 k2 => ?_
  have ay := r2.free qb
  have ax := r2.tail.free qa
  have r3 : Rep C F2 H2 Γ σ ρ ((mb, dy, y) :: (ma, dx, x) :: (mb, dy, y) :: L) := by
    have q0 := r2.tail.tail
    exact ((q0.cons0 ay).cons0 ax).cons0 ay
  refine ho Γ F2 H2 σ ρ _ x y dx dy _ r3 ?_
  revert k2
  cases op dx dy with
  | stuck => exact fun k => k
  | ex c d => exact fun k => k
  | ok dz =>
    intro k2 F3 H3 z s5 s6 r4
    have hz := r4.da rfl
    cases dz with
    | bl b =>
      refine ⟨b, hz, ?_⟩
      have k3 := k2.mono s5 s6
      cases b with
      | false => exact k3.flat r4.tail.tail rfl rfl
      | true =>
        rw [if_pos rfl]
        refine se_then hc (okL_cons (show (mb.stor || mb.free) = true by rw [qb, Bool.or_true]) hL) r4.tail (show PE' C W Γ F3 H3 σ ρ L .fr Q ((gc ρ).bind fun w => op' dy w) from k3) fun dw F4 H4 w s7 s8 r5 k4 => ?_
        exact ho' Γ F4 H4 σ ρ L y w dy dw Q r5 k4
    | _ => exact k2.elim
/-! unary -/
def dNeg : DV → Rs DV
  | .int i => .ok (.int (-i))
  | _ => .stuck
def gUn (f : DV → Rs DV) (g : GE) : GE := fun ρ => (g ρ).bind f
theorem se_neg {t : TE} {g : GE} (h : SE C W Γ t g m) (q : m.rd = true := by rfl) : SE C W Γ (tUn (rU fun i => .int (-i)) t) (gUn dNeg g) .fr := by
  intro F H σ ρ L Q hL r k
  show t σ H fun x H1 => ∃ i, x = .int i ∧ Q (.int (-i)) H1
  refine se_then h hL r k fun d F1 H1 x s1 s2 r1 k1 => ?_
  have hd := r1.da q
  cases d with
  | int i => exact ⟨i, hd, k1.flat r1.tail rfl rfl⟩
  | _ => exact k1.elim

/-! ### calls of built-ins -/
abbrev OpA := List DV → Rs DV
abbrev RA := List V → Hp → VK → Prop
def CallS (C : Cxt) (W : Wx) (r : RA) (op : OpA) (ms : List Md) (m : Md) : Prop :=
  ∀ Γ F H σ ρ L vs ds Q, ds.length = vs.length → ms.length = vs.length → Rep C F H Γ σ ρ (entsA ms ds vs L) → PE' C W Γ F H σ ρ L m Q (op ds) → r vs H Q
def gCB (op : OpA) (g : GA) : GE := fun ρ => (g ρ).bind op
theorem se_cb {r : RA} {op : OpA} {ms : List Md} {t : TA} {g : GA} (ho : CallS C W r op ms m) (h : SA C W Γ t g ms) : SE C W Γ (tCB r t) (gCB op g) m := by
  intro F H σ ρ L Q hL r0 k
  show t σ H fun vs H1 => r vs H1 Q
  refine sa_then h hL r0 k fun ds F1 H1 vs s1 s2 e1 e2 r1 k1 => ?_
  exact ho Γ F1 H1 σ ρ L vs ds Q e1 e2 r1 k1
/-- one argument -/
theorem call1 {r : RA} {op : OpA} (h : ∀ Γ F H σ ρ L x dx Q, Rep C F H Γ σ ρ ((ma, dx, x) :: L) → PE' C W Γ F H σ ρ L m Q (op [dx]) → r [x] H Q) : CallS C W r op [ma] m := by
  intro Γ F H σ ρ L vs ds Q e1 e2 r0 k
  match vs, ds, e1, e2, r0, k with
  | [x], [dx], _, _, r0, k => exact h Γ F H σ ρ L x dx Q r0 k
theorem call2 {r : RA} {op : OpA} (h : ∀ Γ F H σ ρ L x y dx dy Q, Rep C F H Γ σ ρ ((mb, dy, y) :: (ma, dx, x) :: L) → PE' C W Γ F H σ ρ L m Q (op [dx, dy]) → r [x, y] H Q) : CallS C W r op [ma, mb] m := by
  intro Γ F H σ ρ L vs ds Q e1 e2 r0 k
  match vs, ds, e1, e2, r0, k with
  | [x, y], [dx, dy], _, _, r0, k => exact h Γ F H σ ρ L x y dx dy Q r0 k
def raOr (a b : RA) : RA := fun vs H Q => a vs H Q ∨ b vs H Q
theorem CallR_or {X : Cx} {f : Value} {a b : RA} (h1 : CallR X f a) (h2 : CallR X f b) : CallR X f (raOr a b) := fun pins s σ H xs us Q I r h => h.elim (h1 pins s σ H xs us Q I r) (h2 pins s σ H xs us Q I r)
/-! len -/
def dLen : OpA
  | [.lst ds] => .ok (.int ds.length)
  | [.tup ds] => .ok (.int ds.length)
  | [.dct ks _] => .ok (.int ks.length)
  | [.str z] => if z.length ≤ sizeLine then .ok (.int z.length) else .stuck
  | _ => .stuck
abbrev rLenSeq (K : PySem.W.Frag) : RA := fun xs H Q => ∃ p ys, xs = [.ref p] ∧ (SqL K H p ys ∨ SqT K H p ys) ∧ Q (.int ys.length) H
abbrev rLenStr : RA := fun xs H Q => ∃ z, xs = [.str z] ∧ z.length ≤ sizeLine ∧ Q (.int z.length) H
abbrev rLenDct : RA := fun xs H Q => ∃ a kvs, xs = [V.ref a] ∧ H a = some (.dK kvs) ∧ Q (.int kvs.length) H
abbrev rLenX (K : PySem.W.Frag) : RA := raOr (rLenSeq K) (raOr rLenStr rLenDct)
theorem call_lenX {X : Cx} : CallR X (.builtin "len") (rLenX X.K) := CallR_or call_len_seq (CallR_or call_len_str call_lenD)
theorem cs_len (q : ma.ixok = true := by rfl) : CallS C W (rLenX C.K) dLen [ma] .fr := call1 fun Γ F H σ ρ L x dx Q r k => by
  cases dx with
  | lst ds =>
    obtain ⟨a, vs, h1, h2, h3⟩ := r.items q
    subst h1
    refine .inl ⟨a, vs, rfl, .inl h2.1, ?_⟩
    rw [← h3.length]
    exact k.flat r.tail rfl rfl
  | tup ds =>
    obtain ⟨a, vs, h1, h2, h3⟩ := r.parts q
    subst h1
    refine .inl ⟨a, vs, rfl, .inr h2, ?_⟩
    rw [← h3.length]
    exact k.flat r.tail rfl rfl
  | dct ks ds =>
    have hd : DA C.K C.mg H (.dct ks ds) x := r.daX q (fun _ h => by cases h)
    obtain ⟨a, vs, rfl, ⟨h2, h4⟩, h3⟩ := hd
    refine .inr (.inr ⟨a, _, rfl, h2, ?_⟩)
    rw [List.length_zip, ← h4, Nat.min_self]
    exact k.flat r.tail rfl rfl
  | str z =>
    obtain rfl : x = .str z := r.daX q (fun _ h => by cases h)
    revert k
    show PE' C W Γ F H σ ρ L .fr Q (if z.length ≤ sizeLine then .ok (.int z.length) else .stuck) → _
    split
    · rename_i hz
      exact fun k => .inr (.inl ⟨z, rfl, hz, k.flat r.tail rfl rfl⟩)
    · exact fun k => k.elim
  | _ => exact k.elim
end
end DL
end

/-! text DL6 -/
section
set_option maxRecDepth 100000
set_option maxHeartbeats 4000000
/-! the data layer, part 6: built-ins, slices -/
namespace DL
open PySem PySem.Spec PyProof.Rows L2
section
variable {C : Cxt} {W : Wx} {F F' H H' : Hp} {Γ : List Md} {σ : L2.St} {ρ : EnvD} {L : List Ent} {m ma mb mc : Md} {d : DV} {v : V}
/-! lists of iLst, of truth values -/
def iLst : List DV → Option (List Int)
  | [] => some []
  | .int i :: ds => (iLst ds).map (i :: ·)
  | _ :: _ => none
def bls : List DV → Option (List Bool)
  | [] => some []
  | .bl b :: ds => (bls ds).map (b :: ·)
  | _ :: _ => none
theorem ints_ok : ∀ {ds : List DV} {ns : List Int}, iLst ds = some ns → ds = ns.map DV.int
  | [], ns, h => by cases h; rfl
  | .int i :: ds, ns, h => by
    unfold iLst at h
    cases e : iLst ds with
    | none => rw [e] at h; cases h
    | some r => rw [e] at h; cases h; rw [ints_ok e]; rfl
  | .non :: _, _, h => by cases h
  | .bl _ :: _, _, h => by cases h
  | .str _ :: _, _, h => by cases h
  | .tup _ :: _, _, h => by cases h
  | .lst _ :: _, _, h => by cases h
  | .dct _ _ :: _, _, h => by cases h
  | .obj _ _ _ :: _, _, h => by cases h
theorem bls_ok : ∀ {ds : List DV} {ns : List Bool}, bls ds = some ns → ds = ns.map DV.bl
  | [], ns, h => by cases h; rfl
  | .bl i :: ds, ns, h => by
    unfold bls at h
    cases e : bls ds with
    | none => rw [e] at h; cases h
    | some r => rw [e] at h; cases h; rw [bls_ok e]; rfl
  | .non :: _, _, h => by cases h
  | .int _ :: _, _, h => by cases h
  | .str _ :: _, _, h => by cases h
  | .tup _ :: _, _, h => by cases h
  | .lst _ :: _, _, h => by cases h
  | .dct _ _ :: _, _, h => by cases h
  | .obj _ _ _ :: _, _, h => by cases h
theorem ints_map (ns : List Int) : iLst (ns.map DV.int) = some ns := by
  induction ns with
  | nil => rfl
  | cons n ns ih => show (iLst (ns.map DV.int)).map (n :: ·) = _; rw [ih]; rfl
theorem bls_map (ns : List Bool) : bls (ns.map DV.bl) = some ns := by
  induction ns with
  | nil => rfl
  | cons n ns ih => show (bls (ns.map DV.bl)).map (n :: ·) = _; rw [ih]; rfl
theorem At.int1 {i : Int} {fp : List Addr} (h : At C F H m (.int i) v fp) : v = .int i := by
  cases m with
  | fr => exact h.2
  | bo => exact h.2
  | sc => obtain ⟨_, a, ns, _, h2, _⟩ := h; cases h2
  | pk m => unfold At at h; rw [if_neg (by exact Bool.false_ne_true)] at h; exact h.2
  | tu m => unfold At at h; rw [if_neg (by exact Bool.false_ne_true)] at h; exact h.2
  | po m => unfold At at h; rw [if_neg (by exact Bool.false_ne_true)] at h; exact h.2
  | own m => unfold At at h; rw [if_neg (by exact Bool.false_ne_true)] at h; exact h.2
  | ob m => unfold At at h; rw [if_neg (by exact Bool.false_ne_true)] at h; exact h.2
theorem At.bl1 {i : Bool} {fp : List Addr} (h : At C F H m (.bl i) v fp) : v = .bl i := by
  cases m with
  | fr => exact h.2
  | bo => exact h.2
  | sc => obtain ⟨_, a, ns, _, h2, _⟩ := h; cases h2
  | pk m => unfold At at h; rw [if_neg (by exact Bool.false_ne_true)] at h; exact h.2
  | tu m => unfold At at h; rw [if_neg (by exact Bool.false_ne_true)] at h; exact h.2
  | po m => unfold At at h; rw [if_neg (by exact Bool.false_ne_true)] at h; exact h.2
  | own m => unfold At at h; rw [if_neg (by exact Bool.false_ne_true)] at h; exact h.2
  | ob m => unfold At at h; rw [if_neg (by exact Bool.false_ne_true)] at h; exact h.2
theorem Alls.iLst : ∀ {ns : List Int} {vs : List V} {fp : List Addr}, Alls (At C F H m) (ns.map DV.int) vs fp → vs = ns.map V.int
  | [], _, _, h => h.1
  | n :: ns, _, _, ⟨v, r, f1, f2, h1, h2, h3, h4⟩ => by rw [h1, h3.int1, Alls.iLst h4]; rfl
theorem Alls.bls : ∀ {ns : List Bool} {vs : List V} {fp : List Addr}, Alls (At C F H m) (ns.map DV.bl) vs fp → vs = ns.map V.bl
  | [], _, _, h => h.1
  | n :: ns, _, _, ⟨v, r, f1, f2, h1, h2, h3, h4⟩ => by rw [h1, h3.bl1, Alls.bls h4]; rfl
theorem Rep.newInts {ns : List Int} {p : Addr} (r : Rep C F H Γ σ ρ L) (np : H p = none) : Rep C F (upd H p (.lst (ns.map V.int))) Γ σ ρ ((.own .fr, .lst (ns.map .int), .ref p) :: L) := by
  refine r.newl np ?_
  induction ns with
  | nil => exact ⟨rfl, rfl⟩
  | cons n ns ih => exact ⟨.int n, _, [], [], rfl, rfl, ⟨rfl, rfl⟩, ih⟩
/-! int(x), abs(x), max(x, y), min(x, y), gcd(x, y) -/
def dInt : OpA
  | [.int i] => .ok (.int i)
  | [.bl k] => .ok (.int (if k = true then 1 else 0))
  | _ => .stuck
abbrev rInt : RA := fun xs H Q => (∃ i, xs = [.int i] ∧ Q (.int i) H) ∨ ∃ k, xs = [.bl k] ∧ Q (.int (if k then 1 else 0)) H
theorem cs_int (q : ma.rd = true := by rfl) : CallS C W rInt dInt [ma] .fr := call1 fun Γ F H σ ρ L x dx Q r k => by
  have hd := r.da q
  cases dx with
  | int i => cases hd; exact .inl ⟨i, rfl, k.flat r.tail rfl rfl⟩
  | bl b => cases hd; exact .inr ⟨b, rfl, k.flat r.tail rfl rfl⟩
  | _ => exact k.elim
def dAbs : OpA
  | [.int i] => .ok (.int (if i < 0 then -i else i))
  | _ => .stuck
abbrev rAbs : RA := fun xs H Q => ∃ i, xs = [.int i] ∧ Q (.int (if i < 0 then -i else i)) H
theorem cs_abs (q : ma.rd = true := by rfl) : CallS C W rAbs dAbs [ma] .fr := call1 fun Γ F H σ ρ L x dx Q r k => by
  have hd := r.da q
  cases dx with
  | int i => cases hd; exact ⟨i, rfl, k.flat r.tail rfl rfl⟩
  | _ => exact k.elim
def d2I (g : Int → Int → Int) : OpA
  | [.int i, .int j] => .ok (.int (g i j))
  | _ => .stuck
theorem cs_2I {g : Int → Int → Int} (qa : ma.rd = true := by rfl) (qb : mb.rd = true := by rfl) : CallS C W (fun xs H Q => ∃ i j, xs = [.int i, .int j] ∧ Q (.int (g i j)) H) (d2I g) [ma, mb] .fr := call2 fun Γ F H σ ρ L x y dx dy Q r k => by
  obtain ⟨h1, h2⟩ := r.da2 qa qb
  cases dx with
  | int i =>
    cases dy with
    | int j => cases h1; cases h2; exact ⟨i, j, rfl, k.flat r.tail.tail rfl rfl⟩
    | _ => exact k.elim
  | _ => cases dy <;> exact k.elim
abbrev dMax2 : OpA := d2I fun i j => if j > i then j else i
abbrev dMin2 : OpA := d2I fun i j => if j < i then j else i
abbrev dGcd : OpA := d2I fun a b => ((Nat.gcd a.natAbs b.natAbs : Nat) : Int)
theorem cs_max2 (qa : ma.rd = true := by rfl) (qb : mb.rd = true := by rfl) : CallS C W (fun xs H Q => ∃ i j, xs = [.int i, .int j] ∧ Q (.int (if j > i then j else i)) H) dMax2 [ma, mb] .fr := cs_2I qa qb
theorem cs_min2 (qa : ma.rd = true := by rfl) (qb : mb.rd = true := by rfl) : CallS C W (fun xs H Q => ∃ i j, xs = [.int i, .int j] ∧ Q (.int (if j < i then j else i)) H) dMin2 [ma, mb] .fr := cs_2I qa qb
theorem cs_gcd (qa : ma.rd = true := by rfl) (qb : mb.rd = true := by rfl) : CallS C W rGcd dGcd [ma, mb] .fr := cs_2I qa qb
/-! list(x), tuple(x) -/
def dList : OpA
  | [.lst ds] => .ok (.lst ds)
  | [.tup ds] => .ok (.lst ds)
  | _ => .stuck
abbrev rListOf (K : PySem.W.Frag) : RA := fun xs H Q => ∃ p ys, xs = [.ref p] ∧ (SqL K H p ys ∨ SqT K H p ys) ∧ ∀ l, H l = none → Q (.ref l) (upd H l (.lst ys))
theorem cs_list (q : ma.ixok = true := by rfl) : CallS C W (rListOf C.K) dList [ma] (.own ma.kid) := call1 fun Γ F H σ ρ L x dx Q r k => by
  cases dx with
  | lst ds =>
    obtain ⟨a, vs, h1, h2, h3⟩ := r.items q
    subst h1
    exact ⟨a, vs, rfl, .inl h2.1, fun p np => k F _ _ (Same.refl _) (same_upd np) (r.tail.newl np h3)⟩
  | tup ds =>
    obtain ⟨a, vs, h1, h2, h3⟩ := r.parts q
    subst h1
    exact ⟨a, vs, rfl, .inr h2, fun p np => k F _ _ (Same.refl _) (same_upd np) (r.tail.newl np h3)⟩
  | _ => exact k.elim
/-! sum, any, all, max, min, sorted over one list -/
def dSum : OpA
  | [.lst ds] => match iLst ds with
    | some ns => .ok (.int ns.sum)
    | none => .stuck
  | _ => .stuck
theorem cs_sum (q : ma.ixok = true := by rfl) : CallS C W (rSum C.K) dSum [ma] .fr := call1 fun Γ F H σ ρ L x dx Q r k => by
  cases dx with
  | lst ds =>
    obtain ⟨a, vs, h1, h2, h3⟩ := r.items q
    subst h1
    revert k
    show PE' C W Γ F H σ ρ L .fr Q (match iLst ds with | some ns => .ok (.int ns.sum) | none => .stuck) → _
    cases e : iLst ds with
    | none => exact fun k => k.elim
    | some ns =>
      intro k
      have e2 := ints_ok e
      subst e2
      have e3 := h3.iLst
      subst e3
      exact ⟨a, ns, rfl, h2.1, k.flat r.tail rfl rfl⟩
  | _ => exact k.elim
def dAll : OpA
  | [.lst ds] => match bls ds with
    | some ns => .ok (.bl (ns.all id))
    | none => .stuck
  | _ => .stuck
theorem cs_all (q : ma.ixok = true := by rfl) : CallS C W (rAll C.K) dAll [ma] .fr := call1 fun Γ F H σ ρ L x dx Q r k => by
  cases dx with
  | lst ds =>
    obtain ⟨a, vs, h1, h2, h3⟩ := r.items q
    subst h1
    revert k
    show PE' C W Γ F H σ ρ L .fr Q (match bls ds with | some ns => .ok (.bl (ns.all id)) | none => .stuck) → _
    cases e : bls ds with
    | none => exact fun k => k.elim
    | some ns =>
      intro k
      have e2 := bls_ok e
      subst e2
      have e3 := h3.bls
      subst e3
      exact ⟨a, ns, rfl, h2.1, k.flat r.tail rfl rfl⟩
  | _ => exact k.elim
def dAny : OpA
  | [.lst ds] => match bls ds with
    | some ns => .ok (.bl (ns.any id))
    | none => .stuck
  | _ => .stuck
theorem cs_any (q : ma.ixok = true := by rfl) : CallS C W (rAny C.K) dAny [ma] .fr := call1 fun Γ F H σ ρ L x dx Q r k => by
  cases dx with
  | lst ds =>
    obtain ⟨a, vs, h1, h2, h3⟩ := r.items q
    subst h1
    revert k
    show PE' C W Γ F H σ ρ L .fr Q (match bls ds with | some ns => .ok (.bl (ns.any id)) | none => .stuck) → _
    cases e : bls ds with
    | none => exact fun k => k.elim
    | some ns =>
      intro k
      have e2 := bls_ok e
      subst e2
      have e3 := h3.bls
      subst e3
      exact ⟨a, ns, rfl, h2.1, k.flat r.tail rfl rfl⟩
  | _ => exact k.elim
def maxI : Int → List Int → Int
  | n, [] => n
  | n, x :: xs => maxI (if n < x then x else n) xs
def minI : Int → List Int → Int
  | n, [] => n
  | n, x :: xs => minI (if x < n then x else n) xs
theorem maxI_ge : ∀ (xs : List Int) (n : Int), n ≤ maxI n xs ∧ (∀ y ∈ xs, y ≤ maxI n xs) ∧ (maxI n xs = n ∨ maxI n xs ∈ xs)
  | [], n => ⟨Int.le_refl _, (fun _ h => by cases h), .inl rfl⟩
  | x :: xs, n => by
    obtain ⟨h1, h2, h3⟩ := maxI_ge xs (if n < x then x else n)
    have h4 : n ≤ (if n < x then x else n) ∧ x ≤ (if n < x then x else n) := by split <;> constructor <;> omega
    refine ⟨Int.le_trans h4.1 h1, fun y hy => ?_, ?_⟩
    · rcases List.mem_cons.mp hy with rfl | hy
      · exact Int.le_trans h4.2 h1
      · exact h2 y hy
    · show maxI (if n < x then x else n) xs = n ∨ maxI (if n < x then x else n) xs ∈ x :: xs
      rcases h3 with h3 | h3
      · rw [h3]
        split
        · exact .inr List.mem_cons_self
        · exact .inl rfl
      · exact .inr (List.mem_cons_of_mem _ h3)
theorem minI_le : ∀ (xs : List Int) (n : Int), minI n xs ≤ n ∧ (∀ y ∈ xs, minI n xs ≤ y) ∧ (minI n xs = n ∨ minI n xs ∈ xs)
  | [], n => ⟨Int.le_refl _, (fun _ h => by cases h), .inl rfl⟩
  | x :: xs, n => by
    obtain ⟨h1, h2, h3⟩ := minI_le xs (if x < n then x else n)
    have h4 : (if x < n then x else n) ≤ n ∧ (if x < n then x else n) ≤ x := by split <;> constructor <;> omega
    refine ⟨Int.le_trans h1 h4.1, fun y hy => ?_, ?_⟩
    · rcases List.mem_cons.mp hy with rfl | hy
      · exact Int.le_trans h1 h4.2
      · exact h2 y hy
    · show minI (if x < n then x else n) xs = n ∨ minI (if x < n then x else n) xs ∈ x :: xs
      rcases h3 with h3 | h3
      · rw [h3]
        split
        · exact .inr List.mem_cons_self
        · exact .inl rfl
      · exact .inr (List.mem_cons_of_mem _ h3)
def dMax : OpA
  | [.lst ds] => match iLst ds with
    | some (n :: ns) => .ok (.int (maxI n ns))
    | _ => .stuck
  | _ => .stuck
def dMin : OpA
  | [.lst ds] => match iLst ds with
    | some (n :: ns) => .ok (.int (minI n ns))
    | _ => .stuck
  | _ => .stuck
theorem cs_max (q : ma.ixok = true := by rfl) : CallS C W (rMax C.K) dMax [ma] .fr := call1 fun Γ F H σ ρ L x dx Q r k => by
  cases dx with
  | lst ds =>
    obtain ⟨a, vs, h1, h2, h3⟩ := r.items q
    subst h1
    revert k
    show PE' C W Γ F H σ ρ L .fr Q (match iLst ds with | some (n :: ns) => .ok (.int (maxI n ns)) | _ => .stuck) → _
    cases e : iLst ds with
    | none => exact fun k => k.elim
    | some ns =>
      cases ns with
      | nil => exact fun k => k.elim
      | cons n ns =>
        intro k
        have e2 := ints_ok e
        subst e2
        have e3 := h3.iLst
        subst e3
        refine ⟨a, n :: ns, rfl, h2.1, Nat.succ_pos _, fun z hz hle => ?_⟩
        obtain ⟨g1, g2, g3⟩ := maxI_ge ns n
        have e4 : z = maxI n ns := Int.le_antisymm (by
          rcases List.mem_cons.mp hz with rfl | hz
          · exact g1
          · exact g2 z hz) (by
          rcases g3 with g3 | g3
          · rw [g3]; exact hle _ List.mem_cons_self
          · exact hle _ (List.mem_cons_of_mem _ g3))
        rw [e4]
        exact k.flat r.tail rfl rfl
  | _ => exact k.elim
theorem cs_min (q : ma.ixok = true := by rfl) : CallS C W (rMin C.K) dMin [ma] .fr := call1 fun Γ F H σ ρ L x dx Q r k => by
  cases dx with
  | lst ds =>
    obtain ⟨a, vs, h1, h2, h3⟩ := r.items q
    subst h1
    revert k
    show PE' C W Γ F H σ ρ L .fr Q (match iLst ds with | some (n :: ns) => .ok (.int (minI n ns)) | _ => .stuck) → _
    cases e : iLst ds with
    | none => exact fun k => k.elim
    | some ns =>
      cases ns with
      | nil => exact fun k => k.elim
      | cons n ns =>
        intro k
        have e2 := ints_ok e
        subst e2
        have e3 := h3.iLst
        subst e3
        refine ⟨a, n :: ns, rfl, h2.1, Nat.succ_pos _, fun z hz hle => ?_⟩
        obtain ⟨g1, g2, g3⟩ := minI_le ns n
        have e4 : z = minI n ns := Int.le_antisymm (by
          rcases g3 with g3 | g3
          · rw [g3]; exact hle _ List.mem_cons_self
          · exact hle _ (List.mem_cons_of_mem _ g3)) (by
          rcases List.mem_cons.mp hz with rfl | hz
          · exact g1
          · exact g2 z hz)
        rw [e4]
        exact k.flat r.tail rfl rfl
  | _ => exact k.elim
/-- sorted: put in by order -/
def putI (n : Int) : List Int → List Int
  | [] => [n]
  | x :: xs => if n ≤ x then n :: x :: xs else x :: putI n xs
def sortI : List Int → List Int
  | [] => []
  | x :: xs => putI x (sortI xs)
theorem putI_perm (n : Int) : ∀ xs : List Int, (putI n xs).Perm (n :: xs)
  | [] => List.Perm.refl _
  | x :: xs => by
    unfold putI
    split
    · exact List.Perm.refl _
    · exact ((putI_perm n xs).cons x).trans (List.Perm.swap n x xs)
theorem sortI_perm : ∀ xs : List Int, (sortI xs).Perm xs
  | [] => List.Perm.refl _
  | x :: xs => (putI_perm x _).trans ((sortI_perm xs).cons x)
theorem putI_sorted (n : Int) : ∀ xs : List Int, xs.Pairwise (· ≤ ·) → (putI n xs).Pairwise (· ≤ ·)
  | [], _ => List.pairwise_singleton _ _
  | x :: xs, h => by
    have h1 := List.pairwise_cons.mp h
    unfold putI
    split
    · rename_i q
      refine List.pairwise_cons.mpr ⟨fun y hy => ?_, h⟩
      rcases List.mem_cons.mp hy with rfl | hy
      · exact q
      · exact Int.le_trans q (h1.1 y hy)
    · rename_i q
      refine List.pairwise_cons.mpr ⟨fun y hy => ?_, putI_sorted n xs h1.2⟩
      rcases List.mem_cons.mp ((putI_perm n xs).mem_iff.mp hy) with rfl | hy
      · omega
      · exact h1.1 y hy
theorem sortI_sorted : ∀ xs : List Int, (sortI xs).Pairwise (· ≤ ·)
  | [] => List.Pairwise.nil
  | x :: xs => putI_sorted x _ (sortI_sorted xs)
def dSorted : OpA
  | [.lst ds] => match iLst ds with
    | some ns => .ok (.lst ((sortI ns).map .int))
    | none => .stuck
  | _ => .stuck
theorem cs_sorted (q : ma.ixok = true := by rfl) : CallS C W (rSortedI C.K) dSorted [ma] (.own .fr) := call1 fun Γ F H σ ρ L x dx Q r k => by
  cases dx with
  | lst ds =>
    obtain ⟨a, vs, h1, h2, h3⟩ := r.items q
    subst h1
    revert k
    show PE' C W Γ F H σ ρ L (.own .fr) Q (match iLst ds with | some ns => .ok (.lst ((sortI ns).map .int)) | none => .stuck) → _
    cases e : iLst ds with
    | none => exact fun k => k.elim
    | some ns =>
      intro k
      have e2 := ints_ok e
      subst e2
      have e3 := h3.iLst
      subst e3
      refine ⟨a, ns, rfl, h2.1, fun ns' p pm so np => ?_⟩
      have e4 : ns' = sortI ns := PySem.W.ksm_same (pm.trans (sortI_perm ns).symm) so (sortI_sorted ns)
      subst e4
      exact k F _ _ (Same.refl _) (same_upd np) (r.tail.newInts np)
  | _ => exact k.elim

/-! ### slices -/
abbrev GO := EnvD → Rs (Option Int)
def PO' (C : Cxt) (W : Wx) (Γ : List Md) (F H : Hp) (σ : L2.St) (ρ : EnvD) (L : List Ent) (Q : Option Int → Hp → Prop) : Rs (Option Int) → Prop
  | .ok o => ∀ F' H', Same F F' → Same H H' → Rep C F' H' Γ σ ρ L → Q o H'
  | .ex c d => ∀ F' H', Same F F' → Same H H' → Fit C F' H' → W c d H'
  | .stuck => False
def SO (C : Cxt) (W : Wx) (Γ : List Md) (t : TO) (g : GO) : Prop :=
  ∀ F H σ ρ L Q, okL L → Rep C F H Γ σ ρ L → PO' C W Γ F H σ ρ L Q (g ρ) → t σ H Q
def gNoPart : GO := fun _ => .ok none
def gPart (g : GE) : GO := fun ρ => (g ρ).bind fun d => match d with
  | .int i => .ok (some i)
  | _ => .stuck
theorem so_none : SO C W Γ tNoPart gNoPart := fun F H σ ρ L Q hL r k => k F H (Same.refl _) (Same.refl _) r
theorem so_some {t : TE} {g : GE} (h : SE C W Γ t g m) (q : m.rd = true := by rfl) : SO C W Γ (tPart t) (gPart g) := by
  intro F H σ ρ L Q hL r k
  show t σ H fun x H1 => ∃ i, x = .int i ∧ Q (some i) H1
  refine h F H σ ρ L _ hL r ?_
  unfold gPart at k
  revert k
  cases g ρ with
  | ex c d => exact fun k => k
  | stuck => exact fun k => k
  | ok d =>
    intro k F1 H1 v s1 s2 r1
    have hd := r1.da q
    cases d with
    | int i => exact ⟨i, hd, k F1 H1 s1 s2 r1.tail⟩
    | _ => exact k.elim
theorem so_then {t : TO} {g : GO} {f : Option Int → Rs DV} {Q : VK} {R : Option Int → Hp → Prop} {L2' : List Ent} (ha : SO C W Γ t g) (hL : okL L) (r : Rep C F H Γ σ ρ L) (h : PE' C W Γ F H σ ρ L2' m Q ((g ρ).bind f))
    (k : ∀ b F1 H1, Same F F1 → Same H H1 → Rep C F1 H1 Γ σ ρ L → PE' C W Γ F1 H1 σ ρ L2' m Q (f b) → R b H1) : t σ H R := by
  refine ha F H σ ρ L R hL r ?_
  revert h
  cases g ρ with
  | ok d => exact fun h F1 H1 s1 s2 r1 => k d F1 H1 s1 s2 r1 (h.mono s1 s2)
  | ex c d => exact fun h => h
  | stuck => exact fun h => h
theorem ixok_ok : ∀ {m : Md}, m.ixok = true → (m.stor || m.free) = true
  | .fr, _ => rfl
  | .bo, _ => rfl
  | .sc, _ => rfl
  | .pk m, h => by rw [show (Md.pk m).free = true from fof m h, Bool.or_true]
  | .tu m, h => by rw [show (Md.tu m).free = true from fof m h, Bool.or_true]
  | .po m, h => by rw [show (Md.po m).free = true from fof m h, Bool.or_true]
where fof : ∀ (m : Md), m.fo = true → m.free = true
  | .fr, _ => rfl
  | .pk m, h => fof m h
  | .tu m, h => fof m h
  | .po m, h => fof m h
def cutD (xs : List DV) (lo hi : Option Int) : List DV := (xs.drop (HT.sIx xs.length 0 lo)).take (HT.sIx xs.length xs.length hi - HT.sIx xs.length 0 lo)
def dSl (d : DV) (lo hi : Option Int) : Rs DV := match d with
  | .lst ds => .ok (.lst (cutD ds lo hi))
  | .tup ds => .ok (.tup (cutD ds lo hi))
  | _ => .stuck
abbrev RS := V → Option Int → Option Int → Hp → VK → Prop
def rsOr (a b : RS) : RS := fun x l h H Q => a x l h H Q ∨ b x l h H Q
theorem SlR_or {X : Cx} {a b : RS} (h1 : SlR X a) (h2 : SlR X b) : SlR X (rsOr a b) := fun pins s σ H x v vl vu lo hi sl Q I r i p1 p2 h => h.elim (h1 pins s σ H x v vl vu lo hi sl Q I r i p1 p2) (h2 pins s σ H x v vl vu lo hi sl Q I r i p1 p2)
abbrev rSlX (K : PySem.W.Frag) : RS := rsOr (rSlL K) (rSlA K)
theorem sl_X {X : Cx} : SlR X (rSlX X.K) := SlR_or sl_list sl_tupA
def gSl (g : GE) (lo hi : GO) : GE := fun ρ => (g ρ).bind fun d => (lo ρ).bind fun l => (hi ρ).bind fun u => dSl d l u
theorem Alls.cut {R : DV → V → List Addr → Prop} {ds : List DV} {vs : List V} (h : Alls R ds vs []) (lo hi : Option Int) : Alls R (cutD ds lo hi) (cutV vs lo hi) [] := by
  unfold cutD cutV
  rw [← h.length]
  exact (h.drop _).take _
theorem At.free_pt {ds : List DV} {vs : List V} (q : m.free = true) (h : Alls (At C F H m) ds vs []) : Alls (At C F H m) ds vs [] := h
/-- a slice of a list (a new one), of a tuple whose parts are frozen -/
theorem se_sl {t : TE} {g : GE} {tl th : TO} {gl gh : GO} (ha : SE C W Γ t g ma) (hl : SO C W Γ tl gl) (hh : SO C W Γ th gh) (q : ma.ixok = true := by rfl) (qk : ma.kid = .fr := by rfl) : SE C W Γ (tSl (rSlX C.K) t tl th) (gSl g gl gh) (.own .fr) := by
  intro F H σ ρ L Q hL r0 k
  show t σ H fun x H1 => tl σ H1 fun l H2 => th σ H2 fun u H3 => rSlX C.K x l u H3 Q
  refine se_then ha hL r0 k fun d F1 H1 x s1 s2 r1 k1 => ?_
  refine so_then hl (okL_cons (ixok_ok q) hL) r1 k1 fun l F2 H2 s3 s4 r2 k2 => ?_
  refine so_then hh (okL_cons (ixok_ok q) hL) r2 k2 fun u F3 H3 s5 s6 r3 k3 => ?_
  cases d with
  | lst ds =>
    obtain ⟨a, vs, h1, h2, h3⟩ := r3.items q
    rw [qk] at h3
    exact .inl ⟨a, vs, h1, h2.1, fun p np => k3 F3 _ _ (Same.refl _) (same_upd np) (r3.tail.newl np (h3.cut l u))⟩
  | tup ds =>
    obtain ⟨a, vs, h1, h2, h3⟩ := r3.parts q
    rw [qk] at h3
    have k4 : PE' C W Γ F3 H3 σ ρ L (.own .fr) Q (.ok (.tup (cutD ds l u))) := k3
    have h4 : SqT C.K F3 a vs := tupO_rd r3.fit.tp h2
    have h5 : Alls (At C F3 H3 .fr) (cutD ds l u) (cutV vs l u) [] := h3.cut l u
    refine .inr ⟨a, vs, h1, h2, fun hz => ?_, fun hz p np => ?_⟩
    · have e : cutD ds l u = ds := by
        unfold cutD
        rw [h3.length, hz.1, hz.2, List.drop_zero, Nat.sub_zero, ← h3.length]
        exact List.take_length
      rw [e] at k4
      refine k4.give r3.tail ?_
      unfold At
      rw [if_neg (by exact Bool.false_ne_true)]
      exact ⟨rfl, a, vs, rfl, h4, h3.das fun d v f _ x => x.2⟩
    · obtain ⟨sf, r5⟩ := (show Rep C F3 H3 Γ σ ρ (entsA [] [] [] L) from r3.tail).tuple (m := .fr) (ds := []) (vs := []) (by simp) rfl rfl np
      have np2 := np
      have sh : Same H3 (upd H3 p (.tup (cutV vs l u))) := same_upd np
      have hp : F3 p = none := Same.free r3.fit.fh np
      have sf : Same F3 (upd F3 p (.tup (cutV vs l u))) := same_upd hp
      refine k4 (upd F3 p (.tup (cutV vs l u))) _ _ sf sh ?_
      have r6 : Rep C F3 H3 Γ σ ρ L := r3.tail
      obtain ⟨f1, f2, nd, a1, b1⟩ := r6.own
      have oa := a1.owned
      have ob := b1.owned
      have kp : ∀ x, Owned C F3 H3 x → upd H3 p (.tup (cutV vs l u)) x = H3 x := fun x ⟨_, _, u, e, _⟩ => by rw [upd_ne (ne_of_none e np)]
      have kf : ∀ x, Owned C F3 H3 x → upd F3 p (.tup (cutV vs l u)) x = none := fun x ⟨h, _, u, e, _⟩ => by rw [upd_ne (ne_of_none e np)]; exact h
      refine ⟨⟨r6.fit.ff.trans sf, fun x w e => ?_, r6.fit.bh.trans sh, fun x hx => ?_, fun x w e z => ?_⟩, r6.io, f1, f2, nd, a1.mono sf (fun x hx => kf x (oa x hx)) (fun x hx => kp x (oa x hx)) (.inr sh), [], f2, rfl, ?_, b1.mono sf (fun x hx => kf x (ob x hx)) (fun x hx => kp x (ob x hx)) (.inr sh)⟩
      · by_cases z : x = p
        · subst z; rw [upd_same] at e ⊢; exact e
        · rw [upd_ne z] at e ⊢; exact r6.fit.fh _ _ e
      · by_cases z : x = p
        · subst z; exact .inr (.inl (Same.free r6.fit.bh np))
        · rw [upd_ne z] at hx; exact r6.fit.f0 x hx
      · by_cases y : x = p
        · subst y; rw [upd_same] at e ⊢; exact e
        · rw [upd_ne y] at e ⊢; exact r6.fit.tp x w e z
      · unfold At
        rw [if_neg (by exact Bool.false_ne_true)]
        exact ⟨rfl, p, _, rfl, .inl (.inl upd_same), DAs.mono sf _ _ (h5.das fun d v f _ x => x.2)⟩
  | _ => exact k3.elim
end
end DL
end

/-! text DL7 -/
section
set_option maxRecDepth 100000
set_option maxHeartbeats 4000000
/-! the data layer, part 7: statements, loops -/
namespace DL
open PySem PySem.Spec PyProof.Rows L2
abbrev storL (L : List Ent) : Prop := L.all (fun e => e.1.stor) = true
theorem storL.ok {L : List Ent} (h : storL L) : okL L := fun e he => .inl (List.all_eq_true.mp h e he)
theorem storL_cons {e : Ent} {L : List Ent} (h1 : e.1.stor = true) (h2 : storL L) : storL (e :: L) := by
  show (e.1.stor && L.all fun e => e.1.stor) = true
  rw [h1, h2]
  rfl
def PS' (C : Cxt) (W : Wx) (mr : Md) (Γb Γ : List Md) (F H : Hp) (L : List Ent) (Dn : Ends) : Out → Prop
  | .nx ρ' => ∀ F' H' σ', Same F F' → Rep C F' H' Γ σ' ρ' L → Dn.nx σ' H'
  | .rt d ρ' => ∀ F' H' Γr σ' L' v, Same F F' → Rep C F' H' Γr σ' ρ' ((mr, d, v) :: L') → Dn.rt v H'
  | .bk ρ' => ∀ F' H' σ', Same F F' → Rep C F' H' Γb σ' ρ' L → Dn.bk σ' H'
  | .ct ρ' => ∀ F' H' σ', Same F F' → Rep C F' H' Γb σ' ρ' L → Dn.ct σ' H'
  | .ex c d => ∀ F' H', Same F F' → Fit C F' H' → W c d H'
  | .stuck => False
/-- a statement: the modes turn from Γ to Γ'; Γb: those at break and continue -/
def SS (C : Cxt) (W : Wx) (mr : Md) (Γb Γ : List Md) (t : TS) (g : GS) (Γ' : List Md) : Prop :=
  ∀ F H σ ρ L Dn, storL L → Rep C F H Γ σ ρ L → PS' C W mr Γb Γ' F H L Dn (g ρ) → t Dn σ H
/-- effectful expressions -/
def PX' (C : Cxt) (W : Wx) (Γ : List Md) (F H : Hp) (σ : L2.St) (L : List Ent) (m : Md) (Q : VK) : Rs (DV × EnvD) → Prop
  | .ok (d, ρ') => ∀ F' H' v, Same F F' → Rep C F' H' Γ σ ρ' ((m, d, v) :: L) → Q v H'
  | .ex c d => ∀ F' H', Same F F' → Fit C F' H' → W c d H'
  | .stuck => False
def SX (C : Cxt) (W : Wx) (Γ : List Md) (t : TE) (g : GX) (m : Md) : Prop :=
  ∀ F H σ ρ L Q, storL L → Rep C F H Γ σ ρ L → PX' C W Γ F H σ L m Q (g ρ) → t σ H Q
/-- targets: names alone; is: their slots -/
abbrev GG := DV → EnvD → Rs EnvD
def SN (C : Cxt) (Γ : List Md) (t : TG) (g : GG) (m : Md) (is : List Nat) : Prop :=
  ∀ F H σ ρ L d v ρ' (Q : L2.St → Hp → Prop), Rep C F H Γ σ ρ ((m, d, v) :: L) → g d ρ = .ok ρ' → (∀ σ', (∀ vs : List Nat, (∀ i ∈ is, i ∈ vs) → wipe σ' vs = wipe σ vs) → Rep C F H Γ σ' ρ' L → Q σ' H) → t v σ H Q
section
variable {C : Cxt} {W : Wx} {F F' H H' : Hp} {Γ Γb Γ' Γ2 : List Md} {σ : L2.St} {ρ : EnvD} {L : List Ent} {m ma mb mr : Md} {d : DV} {v : V} {Dn : Ends}
theorem PS'.mono {o : Out} (h : PS' C W mr Γb Γ F H L Dn o) (s : Same F F') : PS' C W mr Γb Γ F' H' L Dn o := by
  cases o with
  | nx ρ' => exact fun F2 H2 σ2 s2 => h F2 H2 σ2 (s.trans s2)
  | rt d ρ' => exact fun F2 H2 Γr σ2 L2 v s2 => h F2 H2 Γr σ2 L2 v (s.trans s2)
  | bk ρ' => exact fun F2 H2 σ2 s2 => h F2 H2 σ2 (s.trans s2)
  | ct ρ' => exact fun F2 H2 σ2 s2 => h F2 H2 σ2 (s.trans s2)
  | ex c d => exact fun F2 H2 s2 => h F2 H2 (s.trans s2)
  | stuck => exact h
theorem PX'.mono {Q : VK} {o : Rs (DV × EnvD)} (h : PX' C W Γ F H σ L m Q o) (s : Same F F') : PX' C W Γ F' H' σ L m Q o := by
  cases o with
  | ok p => exact fun F2 H2 v s2 => h F2 H2 v (s.trans s2)
  | ex c d => exact fun F2 H2 s2 => h F2 H2 (s.trans s2)
  | stuck => exact h
def gPure (g : GE) : GX := fun ρ => (g ρ).bind fun d => .ok (d, ρ)
theorem sx_of {t : TE} {g : GE} (h : SE C W Γ t g m) : SX C W Γ t (gPure g) m := by
  intro F H σ ρ L Q hs r k
  refine h F H σ ρ L Q hs.ok r ?_
  unfold gPure at k
  revert k
  cases g ρ with
  | ok d => exact fun k F1 H1 v s1 s2 r1 => k F1 H1 v s1 r1
  | ex c d => exact fun k F1 H1 s1 s2 f1 => k F1 H1 s1 f1
  | stuck => exact fun k => k
/-- a name's data, moved out of its slot -/
def gMove (i : Nat) : GX := fun ρ => (lk ρ i).bind fun d => .ok (d, ρ.set i none)
theorem sx_move {i : Nat} (e : Γ[i]? = some m) : SX C W Γ (tVar i) (gMove i) m := by
  intro F H σ ρ L Q hs r k
  unfold gMove at k
  rcases lk_cases ρ i with ⟨d, e2, e3⟩ | e3
  · rw [e3] at k
    obtain ⟨v, h1, r1⟩ := r.take e e2
    exact ⟨v, h1, k F H v (Same.refl _) r1⟩
  · rw [e3] at k
    exact k.elim
/-- frozen -/
theorem sx_fr {t : TE} {g : GX} (h : SX C W Γ t g m) (q : m.fz = true) : SX C W Γ t g .fr := by
  intro F H σ ρ L Q hs r k
  refine h F H σ ρ L Q hs r ?_
  revert k
  cases g ρ with
  | ok p =>
    intro k F1 H1 v s1 r1
    obtain ⟨F2, s3, r2⟩ := r1.freeze q
    exact k F2 H1 v (s1.trans s3) r2
  | ex c d => exact fun k => k
  | stuck => exact fun k => k

/-! ### plain statements -/
def gSeq (f g : GS) : GS := fun ρ => match f ρ with
  | .nx ρ' => g ρ'
  | o => o
theorem ss_seq {t u : TS} {f g : GS} (h1 : SS C W mr Γb Γ t f Γ') (h2 : SS C W mr Γb Γ' u g Γ2) : SS C W mr Γb Γ (tSeq t u) (gSeq f g) Γ2 := by
  intro F H σ ρ L Dn hs r k
  show t { Dn with nx := u Dn } σ H
  refine h1 F H σ ρ L _ hs r ?_
  unfold gSeq at k
  revert k
  cases f ρ with
  | nx ρ' => exact fun k F1 H1 σ1 s1 r1 => h2 F1 H1 σ1 ρ' L Dn hs r1 (k.mono s1)
  | rt d ρ' => exact fun k => k
  | bk ρ' => exact fun k => k
  | ct ρ' => exact fun k => k
  | ex c d => exact fun k => k
  | stuck => exact fun k => k
def gNext : GS := fun ρ => .nx ρ
theorem ss_nil : SS C W mr Γb Γ tNext gNext Γ := fun F H σ ρ L Dn hs r k => k F H σ (Same.refl _) r
def gBrk : GS := fun ρ => .bk ρ
def gCnt : GS := fun ρ => .ct ρ
theorem ss_brk : SS C W mr Γ Γ tBreak gBrk Γ' := fun F H σ ρ L Dn hs r k => k F H σ (Same.refl _) r
theorem ss_cnt : SS C W mr Γ Γ tCont gCnt Γ' := fun F H σ ρ L Dn hs r k => k F H σ (Same.refl _) r
def gNever : GS := fun _ => .stuck
theorem ss_never {t : TS} : SS C W mr Γb Γ t gNever Γ' := fun F H σ ρ L Dn hs r k => k.elim
def gIfS (c : GT) (f g : GS) : GS := fun ρ => match c ρ with
  | .ok b => if b = true then f ρ else g ρ
  | .ex c d => .ex c d
  | .stuck => .stuck
theorem ss_if {c : TT} {t u : TS} {gc : GT} {f g : GS} (hc : ST C W Γ c gc) (h1 : SS C W mr Γb Γ t f Γ') (h2 : SS C W mr Γb Γ u g Γ') : SS C W mr Γb Γ (tIfS c t u) (gIfS gc f g) Γ' := by
  intro F H σ ρ L Dn hs r k
  show c σ H fun b H1 => if b = true then t Dn σ H1 else u Dn σ H1
  refine hc F H σ ρ L _ hs.ok r ?_
  unfold gIfS at k
  revert k
  cases gc ρ with
  | ok b =>
    intro k F1 H1 s1 s2 r1
    cases b with
    | true => exact h1 F1 H1 σ ρ L Dn hs r1 (k.mono s1)
    | false => exact h2 F1 H1 σ ρ L Dn hs r1 (k.mono s1)
  | ex c d => exact fun k F1 H1 s1 s2 f1 => k F1 H1 s1 f1
  | stuck => exact fun k => k
def gDrop (g : GX) : GS := fun ρ => match g ρ with
  | .ok (_, ρ') => .nx ρ'
  | .ex c d => .ex c d
  | .stuck => .stuck
theorem ss_expr {t : TE} {g : GX} (h : SX C W Γ t g m) : SS C W mr Γb Γ (tDrop t) (gDrop g) Γ := by
  intro F H σ ρ L Dn hs r k
  show t σ H fun _ H1 => Dn.nx σ H1
  refine h F H σ ρ L _ hs r ?_
  unfold gDrop at k
  revert k
  cases g ρ with
  | ok p => exact fun k F1 H1 v s1 r1 => k F1 H1 σ s1 r1.tail
  | ex c d => exact fun k => k
  | stuck => exact fun k => k
def gRet (g : GX) : GS := fun ρ => match g ρ with
  | .ok (d, ρ') => .rt d ρ'
  | .ex c d => .ex c d
  | .stuck => .stuck
theorem ss_ret {t : TE} {g : GX} (h : SX C W Γ t g mr) : SS C W mr Γb Γ (tRet t) (gRet g) Γ' := by
  intro F H σ ρ L Dn hs r k
  show t σ H Dn.rt
  refine h F H σ ρ L _ hs r ?_
  unfold gRet at k
  revert k
  cases g ρ with
  | ok p => exact fun k F1 H1 v s1 r1 => k F1 H1 Γ σ L v s1 r1
  | ex c d => exact fun k => k
  | stuck => exact fun k => k
def gRetN : GS := fun ρ => .rt .non ρ
theorem ss_retN (q : mr.rd = true := by rfl) : SS C W mr Γb Γ tRetN gRetN Γ' := fun F H σ ρ L Dn hs r k => k F H Γ σ L .non (Same.refl _) (r.cons0 (At.flat q rfl))

/-! ### targets of names -/
def gtName (i : Nat) : GG := fun d ρ => .ok (ρ.set i (some d))
theorem wipe_set (σ : L2.St) (i : Nat) (x : Option V) : ∀ vs : List Nat, i ∈ vs → wipe (σ.set i x) vs = wipe σ vs
  | [], h => by cases h
  | w :: vs, h => by
    show (wipe (σ.set i x) vs).set w none = (wipe σ vs).set w none
    by_cases e : i ∈ vs
    · rw [wipe_set σ i x vs e]
    · have hw : i = w := by
        rcases List.mem_cons.mp h with h | h
        · exact h
        · exact absurd h e
      subst hw
      clear h
      have key : ∀ vs : List Nat, i ∉ vs → wipe (σ.set i x) vs = (wipe σ vs).set i x := by
        intro vs
        induction vs with
        | nil => intro _; rfl
        | cons u vs ih =>
          intro hn
          show (wipe (σ.set i x) vs).set u none = ((wipe σ vs).set u none).set i x
          rw [ih fun z => hn (List.mem_cons_of_mem _ z)]
          have : i ≠ u := fun z => hn (z ▸ List.mem_cons_self)
          exact List.set_comm _ _ this
      rw [key vs e, set_set']
theorem sn_name {i : Nat} (e : Γ[i]? = some m) (hio : ∀ p ∈ C.io, p.1 ≠ i) : SN C Γ (L2.gName i) (gtName i) m [i] := by
  intro F H σ ρ L d v ρ' Q r h k
  cases h
  have l : i < Γ.length := (List.getElem?_eq_some_iff.mp e).1
  have r1 := r.put l hio
  rw [set_id e] at r1
  exact k _ (fun vs hv => wipe_set σ i _ vs (hv i List.mem_cons_self)) r1
def setAll : List Nat → List DV → EnvD → EnvD
  | i :: is, d :: ds, ρ => setAll is ds (ρ.set i (some d))
  | _, _, ρ => ρ
def gtTup (is : List Nat) : GG := fun d ρ => match d with
  | .tup ds => if ds.length = is.length then .ok (setAll is ds ρ) else .stuck
  | _ => .stuck
/-- the names of a tuple's target, one after the other -/
inductive Names : List Nat → TGs → Prop
  | nil : Names [] L2.gNil
  | cons {i : Nat} {is : List Nat} {t : TGs} : Names is t → Names (i :: is) (L2.gCons (L2.gName i) t)
theorem sn_tup {is : List Nat} {t : TGs} (hn : Names is t) (hm : ∀ i ∈ is, Γ[i]? = some m.kid) (hio : ∀ p ∈ C.io, ∀ i ∈ is, p.1 ≠ i) (q : m.ixok = true := by rfl) : SN C Γ (L2.gTup C.K is.length t) (gtTup is) m is := by
  intro F H σ ρ L d v ρ' Q r h k
  cases d with
  | tup ds =>
    obtain ⟨a, vs, h1, h2, h3⟩ := r.parts q
    have h : (if ds.length = is.length then Rs.ok (setAll is ds ρ) else .stuck) = .ok ρ' := h
    split at h
    · rename_i hl
      cases h
      refine ⟨a, vs, h1, h2, by rw [← h3.length]; exact hl, ?_⟩
      have r1 := r.tail
      clear h1 h2 r
      have key : ∀ {is : List Nat} {t : TGs}, Names is t → (∀ i ∈ is, Γ[i]? = some m.kid) → (∀ p ∈ C.io, ∀ i ∈ is, p.1 ≠ i) → ∀ {ds : List DV} {vs : List V} {σ : L2.St} {ρ : EnvD}, ds.length = is.length → Alls (At C F H m.kid) ds vs [] → Rep C F H Γ σ ρ L →
          (∀ σ', (∀ ws : List Nat, (∀ i ∈ is, i ∈ ws) → wipe σ' ws = wipe σ ws) → Rep C F H Γ σ' (setAll is ds ρ) L → Q σ' H) → t vs σ H Q := by
        intro is t hn
        induction hn with
        | nil =>
          intro _ _ ds vs σ ρ hl ha r k
          cases ds with
          | cons d ds => cases hl
          | nil => exact ⟨ha.1, k σ (fun _ _ => rfl) r⟩
        | cons hn ih =>
          rename_i i is t
          intro hm hio ds vs σ ρ hl ha r k
          cases ds with
          | nil => cases hl
          | cons d ds =>
            obtain ⟨w, ws, f1, f2, e1, e2, e3, e4⟩ := ha
            obtain ⟨z1, z2⟩ := List.append_eq_nil_iff.mp e2.symm
            subst z1
            subst z2
            refine ⟨w, ws, e1, ?_⟩
            have ei := hm i List.mem_cons_self
            have l : i < Γ.length := (List.getElem?_eq_some_iff.mp ei).1
            have r2 := (r.cons0 e3).put l fun p hp => hio p hp i List.mem_cons_self
            rw [set_id ei] at r2
            refine ih (fun j hj => hm j (List.mem_cons_of_mem _ hj)) (fun p hp j hj => hio p hp j (List.mem_cons_of_mem _ hj)) (by simpa using hl) e4 r2 fun σ' hw r3 => ?_
            refine k σ' (fun us hu => ?_) r3
            rw [hw us fun j hj => hu j (List.mem_cons_of_mem _ hj)]
            exact wipe_set σ i _ us (hu i List.mem_cons_self)
      exact key hn hm hio hl h3 r1 k
    · cases h
  | _ => cases h
/-! ### x = e -/
def gAsg (g : GX) (tg : GG) : GS := fun ρ => match g ρ with
  | .ok (d, ρ') => (match tg d ρ' with
    | .ok ρ2 => .nx ρ2
    | .ex c d => .ex c d
    | .stuck => .stuck)
  | .ex c d => .ex c d
  | .stuck => .stuck
theorem ss_asg {te : TE} {g : GX} {tg : TG} {gg : GG} {is : List Nat} (h : SX C W Γ te g m) (hg : SN C Γ tg gg m is) (hx : ∀ d ρ c e, gg d ρ ≠ .ex c e) : SS C W mr Γb Γ (tAsg te tg) (gAsg g gg) Γ := by
  intro F H σ ρ L Dn hs r k
  show te σ H fun x H1 => tg x σ H1 Dn.nx
  refine h F H σ ρ L _ hs r ?_
  unfold gAsg at k
  revert k
  cases g ρ with
  | ok p =>
    obtain ⟨d, ρ'⟩ := p
    intro k F1 H1 v s1 r1
    have k : PS' C W mr Γb Γ F H L Dn (match gg d ρ' with | .ok ρ2 => .nx ρ2 | .ex c d => .ex c d | .stuck => .stuck) := k
    cases e : gg d ρ' with
    | ok ρ2 =>
      rw [e] at k
      exact hg F1 H1 σ ρ' L d v ρ2 _ r1 e fun σ' _ r2 => k F1 H1 σ' s1 r2
    | ex c d => exact absurd e (hx _ _ _ _)
    | stuck => rw [e] at k; exact k.elim
  | ex c d => exact fun k => k
  | stuck => exact fun k => k
theorem nx_name {i : Nat} : ∀ d ρ c e, gtName i d ρ ≠ .ex c e := fun _ _ _ _ h => by cases h
theorem nx_tup {is : List Nat} : ∀ d ρ c e, gtTup is d ρ ≠ .ex c e := fun d _ _ _ h => by
  cases d with
  | tup ds =>
    have h : (if ds.length = is.length then Rs.ok _ else .stuck) = Rs.ex _ _ := h
    split at h <;> cases h
  | _ => cases h
theorem ss_set {i : Nat} {te : TE} {g : GX} (h : SX C W Γ te g m) (l : i < Γ.length) (hio : ∀ p ∈ C.io, p.1 ≠ i) : SS C W mr Γb Γ (tAsg te (gName i)) (gAsg g (gtName i)) (Γ.set i m) := by
  intro F H σ ρ L Dn hs r k
  show te σ H fun x H1 => Dn.nx (σ.set i (some x)) H1
  refine h F H σ ρ L _ hs r ?_
  unfold gAsg at k
  revert k
  cases g ρ with
  | ok p => exact fun k F1 H1 v s1 r1 => k F1 H1 _ s1 (r1.put l hio)
  | ex c d => exact fun k => k
  | stuck => exact fun k => k
/-- the modes of slots that hold nothing may be any -/
theorem ss_mode {i : Nat} {t : TS} {g : GS} (h : SS C W mr Γb (Γ.set i m) t g Γ') (l : i < Γ.length) (hio : ∀ p ∈ C.io, p.1 ≠ i) : SS C W mr Γb Γ t (fun ρ => g (ρ.set i none)) Γ' := by
  intro F H σ ρ L Dn hs r k
  refine h F H σ (ρ.set i none) L Dn hs ?_ k
  obtain ⟨f1, f2, nd, a, b⟩ := r.own
  have key : ∀ {Γ : List Md} {σ : L2.St} {ρ : EnvD} {fp : List Addr} {i : Nat}, Slots C F H Γ σ ρ fp → ∃ x y z, fp = x ++ (y ++ z) ∧ Slots C F H (Γ.set i m) σ (ρ.set i none) (x ++ z) := by
    intro Γ
    induction Γ with
    | nil =>
      intro σ ρ fp i h
      cases σ <;> cases ρ <;> first | exact ⟨[], [], [], h, rfl⟩ | exact h.elim
    | cons m1 Γ ih =>
      intro σ ρ fp i h
      cases σ with
      | nil => cases ρ <;> exact h.elim
      | cons s1 σ =>
        cases ρ with
        | nil => exact h.elim
        | cons r1 ρ =>
          obtain ⟨f1, f2, h1, h2, h3⟩ := h
          cases i with
          | zero => exact ⟨[], f1, f2, h1, [], f2, rfl, rfl, h3⟩
          | succ i =>
            obtain ⟨x, y, z, h4, h5⟩ := ih (i := i) h3
            exact ⟨f1 ++ x, y, z, by rw [h1, h4, List.append_assoc], f1, x ++ z, by rw [List.append_assoc], h2, h5⟩
  obtain ⟨x, y, z, h4, h5⟩ := key (i := i) a
  subst h4
  refine ⟨r.fit, fun p hp => ?_, x ++ z, f2, nd.sublist (List.Sublist.append (List.Sublist.append (List.Sublist.refl _) (List.sublist_append_right _ _)) (List.Sublist.refl _)), h5, b⟩
  rw [List.getElem?_set_ne (Ne.symm (hio p hp))]
  exact r.io p hp

/-! ### while -/
def whileG (c : GT) (b : GS) : Nat → GS
  | 0, _ => .stuck
  | n + 1, ρ => match c ρ with
    | .ok true => (match b ρ with
      | .nx ρ' => whileG c b n ρ'
      | .ct ρ' => whileG c b n ρ'
      | .bk ρ' => .nx ρ'
      | o => o)
    | .ok false => .nx ρ
    | .ex c d => .ex c d
    | .stuck => .stuck
def fuelW : Nat := 1099511627776
def gWhile (c : GT) (b : GS) : GS := whileG c b fuelW
theorem whileG_mono {c : GT} {b : GS} : ∀ {n k : Nat} {ρ : EnvD} {o : Out}, n ≤ k → whileG c b n ρ = o → o ≠ .stuck → whileG c b k ρ = o
  | 0, _, _, _, _, h, hn => absurd h.symm hn
  | n + 1, 0, _, _, h, _, _ => absurd h (Nat.not_succ_le_zero _)
  | n + 1, k + 1, ρ, o, h, e, hn => by
    unfold whileG at e ⊢
    split at e
    · split at e
      · exact whileG_mono (Nat.le_of_succ_le_succ h) e hn
      · exact whileG_mono (Nat.le_of_succ_le_succ h) e hn
      · exact e
      · exact e
    · exact e
    · exact e
    · exact e
theorem gWhile_of {c : GT} {b : GS} {n : Nat} {ρ : EnvD} {o : Out} (h : n ≤ fuelW) (e : whileG c b n ρ = o) (hn : o ≠ .stuck) : gWhile c b ρ = o := whileG_mono h e hn
theorem ss_while {c : TT} {tb : TS} {gc : GT} {gb : GS} (hc : ST C W Γ c gc) (hb : SS C W mr Γ Γ tb gb Γ) : SS C W mr Γb Γ (tWhile c tb) (gWhile gc gb) Γ := by
  intro F H σ ρ L Dn hs r k
  refine ⟨fun n σ H => ∃ F' ρ', Same F F' ∧ Rep C F' H Γ σ ρ' L ∧ PS' C W mr Γb Γ F' H L Dn (whileG gc gb n ρ'), ⟨fuelW, F, ρ, Same.refl _, r, k⟩, fun n σ H hW => ?_⟩
  obtain ⟨F1, ρ1, s1, r1, k1⟩ := hW
  cases n with
  | zero => exact k1.elim
  | succ n =>
    refine hc F1 H σ ρ1 L _ hs.ok r1 ?_
    unfold whileG at k1
    revert k1
    cases gc ρ1 with
    | ok b =>
      intro k1 F2 H2 s2 s3 r2
      cases b with
      | false =>
        show Dn.nx σ H2
        exact k1 F2 H2 σ s2 r2
      | true =>
        show ∃ N : L2.St → Hp → Prop, _
        refine ⟨fun σ' H' => ∃ F' ρ', Same F F' ∧ Rep C F' H' Γ σ' ρ' L ∧ PS' C W mr Γb Γ F' H' L Dn (whileG gc gb n ρ'), fun σ' H' h => ⟨n, Nat.lt_succ_self _, h⟩, ?_⟩
        refine hb F2 H2 σ ρ1 L _ hs r2 ?_
        revert k1
        cases gb ρ1 with
        | nx ρ' => exact fun k F3 H3 σ3 s4 r3 => ⟨F3, ρ', s1.trans (s2.trans s4), r3, PS'.mono k (s2.trans s4)⟩
        | ct ρ' => exact fun k F3 H3 σ3 s4 r3 => ⟨F3, ρ', s1.trans (s2.trans s4), r3, PS'.mono k (s2.trans s4)⟩
        | bk ρ' => exact fun k F3 H3 σ3 s4 r3 => k F3 H3 σ3 (s2.trans s4) r3
        | rt d ρ' => exact fun k F3 H3 Γr σ3 L3 v s4 r3 => k F3 H3 Γr σ3 L3 v (s2.trans s4) r3
        | ex c d => exact fun k F3 H3 s4 f => k F3 H3 (s2.trans s4) f
        | stuck => exact fun k => k
    | ex c d => exact fun k1 F2 H2 s2 s3 f => k1 F2 H2 s2 f
    | stuck => exact fun k1 => k1

/-! ### what is walked -/
/-- the turns of J give the items, in the mode m, while the entries E stand -/
def Walk (C : Cxt) (J : It) (its : List DV) (m : Md) (E : List Ent) : Prop :=
  ∀ (i : Nat) F H Γ σ ρ L, Rep C F H Γ σ ρ (E ++ L) → (its.length ≤ i → J.stop i H) ∧
    ∀ d, its[i]? = some d → J.go i H ∧ ∀ x H', J.yld i H x H' → ∃ F', Same F F' ∧ Same H H' ∧ Rep C F' H' Γ σ ρ ((m, d, x) :: (E ++ L))
abbrev GI := EnvD → Rs (List DV)
def PI' (C : Cxt) (W : Wx) (Γ : List Md) (F H : Hp) (σ : L2.St) (ρ : EnvD) (L : List Ent) (m : Md) (st : Bool) (R : It → Hp → Prop) : Rs (List DV) → Prop
  | .ok its => ∀ F' H' J E, Same F F' → Same H H' → (st = true → storL E) → (∀ e ∈ E, e.1.free = true ∧ At C F' H' e.1 e.2.1 e.2.2 []) → Rep C F' H' Γ σ ρ (E ++ L) → Walk C J its m E → R J H'
  | .ex c d => ∀ F' H', Same F F' → Same H H' → Fit C F' H' → W c d H'
  | .stuck => False
def SI (C : Cxt) (W : Wx) (Γ : List Md) (wi : TI) (gi : GI) (m : Md) (st : Bool) : Prop :=
  ∀ F H σ ρ L R, okL L → Rep C F H Γ σ ρ L → PI' C W Γ F H σ ρ L m st R (gi ρ) → wi σ H R
theorem storL_app {E L : List Ent} (h1 : storL E) (h2 : storL L) : storL (E ++ L) := by
  show (E ++ L).all _ = true
  rw [List.all_append, h1, h2]
  rfl
theorem Rep.dropE : ∀ {E : List Ent}, Rep C F H Γ σ ρ (E ++ L) → Rep C F H Γ σ ρ L
  | [], r => r
  | _ :: E, r => Rep.dropE (E := E) r.tail
def forG (tg : GG) (b : GS) : List DV → GS
  | [], ρ => .nx ρ
  | d :: ds, ρ => match tg d ρ with
    | .ok ρ1 => (match b ρ1 with
      | .nx ρ2 => forG tg b ds ρ2
      | .ct ρ2 => forG tg b ds ρ2
      | .bk ρ2 => .nx ρ2
      | o => o)
    | .ex c d => .ex c d
    | .stuck => .stuck
def gFor (gi : GI) (tg : GG) (b : GS) : GS := fun ρ => match gi ρ with
  | .ok its => forG tg b its ρ
  | .ex c d => .ex c d
  | .stuck => .stuck
theorem ss_for {wi : TI} {gi : GI} {g : TG} {tg : GG} {tb : TS} {gb : GS} {is : List Nat} (hi : SI C W Γ wi gi m true) (hg : SN C Γ g tg m is) (hx : ∀ d ρ c e, tg d ρ ≠ .ex c e) (hb : SS C W mr Γ Γ tb gb Γ) : SS C W mr Γb Γ (tFor wi g tb) (gFor gi tg gb) Γ := by
  intro F H σ ρ L Dn hs r k
  refine hi F H σ ρ L _ hs.ok r ?_
  unfold gFor at k
  revert k
  cases gi ρ with
  | ex c d => exact fun k F2 H2 s2 s3 f => k F2 H2 s2 f
  | stuck => exact fun k => k
  | ok its =>
    intro k F1 H1 J E s1 s2 hE hA r1 w
    refine ⟨fun i n σ H => i + n = its.length ∧ ∃ F' ρ', Same F F' ∧ Rep C F' H Γ σ ρ' (E ++ L) ∧ PS' C W mr Γb Γ F' H L Dn (forG tg gb (its.drop i) ρ'), ⟨its.length, by omega, F1, ρ, s1, r1, PS'.mono k s1⟩, fun i n σ H hW => ?_⟩
    obtain ⟨en, F2, ρ2, s3, r2, k2⟩ := hW
    obtain ⟨w1, w2⟩ := w i F2 H Γ σ ρ2 L r2
    cases e : its[i]? with
    | none =>
      have hl := List.getElem?_eq_none_iff.mp e
      rw [List.drop_of_length_le hl] at k2
      exact .inl ⟨w1 hl, k2 F2 H σ (Same.refl _) r2.dropE⟩
    | some d =>
      have hl := (List.getElem?_eq_some_iff.mp e).1
      have ed : its.drop i = d :: its.drop (i + 1) := by
        rw [List.drop_eq_getElem_cons hl, (List.getElem?_eq_some_iff.mp e).2]
      rw [ed] at k2
      obtain ⟨w3, w4⟩ := w2 d e
      refine .inr ⟨w3, fun σ' H' => ∃ F' ρ', Same F F' ∧ Rep C F' H' Γ σ' ρ' (E ++ L) ∧ PS' C W mr Γb Γ F' H' L Dn (forG tg gb (its.drop (i + 1)) ρ'), fun σ' H' h => ⟨n - 1, by omega, by omega, h⟩, fun x H' hy => ?_⟩
      obtain ⟨F3, s4, s5, r3⟩ := w4 x H' hy
      unfold forG at k2
      cases et : tg d ρ2 with
      | ex c d => exact absurd et (hx _ _ _ _)
      | stuck => rw [et] at k2; exact k2.elim
      | ok ρ3 =>
        rw [et] at k2
        refine hg F3 H' σ ρ2 (E ++ L) d x ρ3 _ r3 et fun σ' _ r4 => ?_
        refine hb F3 H' σ' ρ3 (E ++ L) _ (storL_app (hE rfl) hs) r4 ?_
        revert k2
        show PS' C W mr Γb Γ F2 H L Dn (match gb ρ3 with | .nx ρ2 => forG tg gb (its.drop (i + 1)) ρ2 | .ct ρ2 => forG tg gb (its.drop (i + 1)) ρ2 | .bk ρ2 => .nx ρ2 | o => o) → _
        cases gb ρ3 with
        | nx ρ' => exact fun k F4 H4 σ4 s6 r5 => ⟨F4, ρ', s3.trans (s4.trans s6), r5, PS'.mono k (s4.trans s6)⟩
        | ct ρ' => exact fun k F4 H4 σ4 s6 r5 => ⟨F4, ρ', s3.trans (s4.trans s6), r5, PS'.mono k (s4.trans s6)⟩
        | bk ρ' => exact fun k F4 H4 σ4 s6 r5 => k F4 H4 σ4 (s4.trans s6) r5.dropE
        | rt d ρ' => exact fun k F4 H4 Γr σ4 L4 v s6 r5 => k F4 H4 Γr σ4 L4 v (s4.trans s6) r5
        | ex c d => exact fun k F4 H4 s6 f => k F4 H4 (s4.trans s6) f
        | stuck => exact fun k => k
end
end DL
end

/-! text DL8 -/
section
set_option maxRecDepth 100000
set_option maxHeartbeats 4000000
/-! the data layer, part 8: what is walked, comprehensions -/
namespace DL
open PySem PySem.Spec PyProof.Rows L2
section
variable {C : Cxt} {W : Wx} {F F' H H' : Hp} {Γ : List Md} {σ : L2.St} {ρ : EnvD} {L : List Ent} {m ma mb mr : Md} {d : DV} {v : V} {st : Bool}
theorem ixok_free : ∀ {m : Md}, m.ixok = true → m.free = true
  | .fr, _ => rfl
  | .bo, _ => rfl
  | .sc, _ => rfl
  | .pk m, h => fo_free m h
  | .tu m, h => fo_free m h
  | .po m, h => fo_free m h
where fo_free : ∀ (m : Md), m.fo = true → m.free = true
  | .fr, _ => rfl
  | .pk m, h => fo_free m h
  | .tu m, h => fo_free m h
  | .po m, h => fo_free m h
def seqOf : DV → Rs (List DV)
  | .lst ds => .ok ds
  | .tup ds => .ok ds
  | _ => .stuck
def gSeqI (g : GE) : GI := fun ρ => (g ρ).bind seqOf
/-- a list or a tuple -/
def iSeq (K : PySem.W.Frag) (tl : TE) : TI := fun σ H R => iList K tl σ H R ∨ iTup K tl σ H R
theorem pi_seq {X : Cx} {tg l : Expr} {tl : TE} (hl : PE X l tl) : PI X tg l (iSeq X.K tl) :=
  ⟨fun pins s σ H R I h => h.elim (fun h => (pi_list hl).run pins s σ H R I h) fun h => (pi_tup hl).run pins s σ H R I h⟩
theorem si_seq {t : TE} {g : GE} (h : SE C W Γ t g m) (q : m.ixok = true := by rfl) (hs : st = true → m.stor = true := by exact fun _ => rfl) : SI C W Γ (iSeq C.K t) (gSeqI g) m.kid st := by
  intro F H σ ρ L R hL r k
  unfold gSeqI at k
  have key : ∀ d, g ρ = .ok d → (∀ ds, d = .lst ds → iList C.K t σ H R) ∧ (∀ ds, d = .tup ds → iTup C.K t σ H R) := by
    intro d e
    constructor
    · intro ds ed
      subst ed
      rw [e] at k
      refine h F H σ ρ L _ hL r ?_
      rw [e]
      intro F1 H1 x s1 s2 r1
      obtain ⟨a, vs, h1, h2, h3⟩ := r1.items q
      refine ⟨a, h1, ⟨vs, h2.1⟩, ?_⟩
      refine k F1 H1 (Itl C.K a) [(m, .lst ds, x)] s1 s2 (fun z => storL_cons (hs z) rfl) (fun e he => ?_) r1 ?_
      · obtain rfl := List.mem_singleton.mp he
        exact ⟨ixok_free q, r1.free (ixok_free q)⟩
      · intro i F2 H2 Γ2 σ2 ρ2 L2 r2
        obtain ⟨a2, vs2, g1, g2, g3⟩ := Rep.items (L := L2) r2 q
        have ea : a2 = a := by
          rw [h1] at g1
          cases g1
          rfl
        subst ea
        refine ⟨fun hl => ⟨vs2, g2.1, by rw [← g3.length]; exact hl⟩, fun d hd => ?_⟩
        obtain ⟨w, e1, e2⟩ := g3.nil_get hd
        refine ⟨⟨vs2, w, g2.1, e1⟩, fun y H' hy => ?_⟩
        obtain ⟨rfl, hy⟩ := hy
        have ey : y = w := Option.some.inj ((hy vs2 g2.1).symm.trans e1)
        subst ey
        exact ⟨F2, Same.refl _, Same.refl _, r2.cons0 e2⟩
    · intro ds ed
      subst ed
      rw [e] at k
      refine h F H σ ρ L _ hL r ?_
      rw [e]
      intro F1 H1 x s1 s2 r1
      obtain ⟨a, vs, h1, h2, h3⟩ := r1.parts q
      refine ⟨a, h1, ⟨vs, h2⟩, ?_⟩
      refine k F1 H1 (Itt C.K a) [(m, .tup ds, x)] s1 s2 (fun z => storL_cons (hs z) rfl) (fun e he => ?_) r1 ?_
      · obtain rfl := List.mem_singleton.mp he
        exact ⟨ixok_free q, r1.free (ixok_free q)⟩
      · intro i F2 H2 Γ2 σ2 ρ2 L2 r2
        obtain ⟨a2, vs2, g1, g2, g3⟩ := Rep.parts (L := L2) r2 q
        have ea : a2 = a := by
          rw [h1] at g1
          cases g1
          rfl
        subst ea
        refine ⟨fun hl => ⟨vs2, g2, by rw [← g3.length]; exact hl⟩, fun d hd => ?_⟩
        obtain ⟨w, e1, e2⟩ := g3.nil_get hd
        refine ⟨⟨vs2, w, g2, e1⟩, fun y H' hy => ?_⟩
        obtain ⟨rfl, hy⟩ := hy
        have ey : y = w := Option.some.inj ((hy vs2 g2).symm.trans e1)
        subst ey
        exact ⟨F2, Same.refl _, Same.refl _, r2.cons0 e2⟩
  cases e : g ρ with
  | ok d =>
    cases d with
    | lst ds => exact .inl ((key _ e).1 ds rfl)
    | tup ds => exact .inr ((key _ e).2 ds rfl)
    | _ => rw [e] at k; exact k.elim
  | ex c d =>
    refine .inl (h F H σ ρ L _ hL r ?_)
    rw [e] at k ⊢
    exact k
  | stuck => rw [e] at k; exact k.elim

/-! ranges -/
def rngD (lo : Int) (n : Nat) : List DV := (List.range n).map fun k : Nat => DV.int (lo + (k : Int))
def rngOk (j : Int) : Bool := decide (-(2 ^ 62) ≤ j) && decide (j < 2 ^ 62)
theorem rngOk_ok {j : Int} (h : rngOk j = true) : -(2 ^ 62) ≤ j ∧ j < 2 ^ 62 := by
  obtain ⟨h1, h2⟩ := (Bool.and_eq_true _ _).mp h
  exact ⟨of_decide_eq_true h1, of_decide_eq_true h2⟩
def dRng1 : List DV → Rs (List DV)
  | [.int j] => if rngOk j = true then .ok (rngD 0 j.toNat) else .stuck
  | _ => .stuck
def dRng2 : List DV → Rs (List DV)
  | [.int i, .int j] => if (rngOk i && rngOk j) = true then .ok (rngD i (j - i).toNat) else .stuck
  | _ => .stuck
def gRng1 (g : GA) : GI := fun ρ => (g ρ).bind dRng1
def gRng2 (g : GA) : GI := fun ρ => (g ρ).bind dRng2
theorem walk_rng {lo : Int} {n : Nat} : Walk C (Itr lo n) (rngD lo n) .fr [] := by
  intro i F H Γ σ ρ L r
  have hl : (rngD lo n).length = n := by unfold rngD; rw [List.length_map, List.length_range]
  refine ⟨fun h => by rw [hl] at h; exact h, fun d hd => ?_⟩
  have h1 := (List.getElem?_eq_some_iff.mp hd).1
  rw [hl] at h1
  have h2 : d = .int (lo + (i : Int)) := by
    unfold rngD at hd
    rw [List.getElem?_map, List.getElem?_range h1] at hd
    exact (Option.some.inj hd).symm
  subst h2
  refine ⟨h1, fun x H' hy => ?_⟩
  obtain ⟨rfl, rfl⟩ := hy
  exact ⟨F, Same.refl _, Same.refl _, r.cons0 ⟨rfl, rfl⟩⟩
theorem si_rng1 {t : TA} {g : GA} (h : SA C W Γ t g [ma]) (q : ma.rd = true := by rfl) : SI C W Γ (iRng1 t) (gRng1 g) .fr st := by
  intro F H σ ρ L R hL r k
  show t σ H fun vs H1 => ∃ j : Int, vs = [.int j] ∧ -(2 ^ 62) ≤ j ∧ j < 2 ^ 62 ∧ R (Itr 0 j.toNat) H1
  refine h F H σ ρ L _ hL r ?_
  unfold gRng1 at k
  revert k
  cases g ρ with
  | ex c d => exact fun k => k
  | stuck => exact fun k => k
  | ok ds =>
    intro k F1 H1 vs s1 s2 e1 e2 r1
    match vs, ds, e1, e2, r1, k with
    | [x], [dx], _, _, r1, k =>
      have hd := Rep.da (L := L) r1 q
      cases dx with
      | int j =>
        have k : PI' C W Γ F H σ ρ L .fr st R (if rngOk j = true then .ok (rngD 0 j.toNat) else .stuck) := k
        split at k
        · rename_i hz
          obtain ⟨z1, z2⟩ := rngOk_ok hz
          have hx : x = .int j := hd
          exact ⟨j, by rw [hx], z1, z2, k F1 H1 _ [] s1 s2 (fun _ => rfl) (fun e he => by cases he) (Rep.tail (L := L) r1) walk_rng⟩
        · exact k.elim
      | _ => exact k.elim
theorem si_rng2 {t : TA} {g : GA} (h : SA C W Γ t g [ma, mb]) (qa : ma.rd = true := by rfl) (qb : mb.rd = true := by rfl) : SI C W Γ (iRng2 t) (gRng2 g) .fr st := by
  intro F H σ ρ L R hL r k
  show t σ H fun vs H1 => ∃ i j : Int, vs = [.int i, .int j] ∧ (-(2 ^ 62) ≤ i ∧ i < 2 ^ 62 ∧ -(2 ^ 62) ≤ j ∧ j < 2 ^ 62) ∧ R (Itr i (j - i).toNat) H1
  refine h F H σ ρ L _ hL r ?_
  unfold gRng2 at k
  revert k
  cases g ρ with
  | ex c d => exact fun k => k
  | stuck => exact fun k => k
  | ok ds =>
    intro k F1 H1 vs s1 s2 e1 e2 r1
    match vs, ds, e1, e2, r1, k with
    | [x, y], [dx, dy], _, _, r1, k =>
      obtain ⟨hd1, hd2⟩ := Rep.da2 (L := L) r1 qa qb
      cases dx with
      | int i =>
        cases dy with
        | int j =>
          have k : PI' C W Γ F H σ ρ L .fr st R (if (rngOk i && rngOk j) = true then .ok (rngD i (j - i).toNat) else .stuck) := k
          split at k
          · rename_i hz
            obtain ⟨y1, y2⟩ := (Bool.and_eq_true _ _).mp hz
            obtain ⟨z1, z2⟩ := rngOk_ok y1
            obtain ⟨z3, z4⟩ := rngOk_ok y2
            have hx : x = .int i := hd1
            have hy : y = .int j := hd2
            exact ⟨i, j, by rw [hx, hy], ⟨z1, z2, z3, z4⟩, k F1 H1 _ [] s1 s2 (fun _ => rfl) (fun e he => by cases he) (Rep.tail (L := L) (Rep.tail (L := _ :: L) r1)) walk_rng⟩
          · exact k.elim
        | _ => exact k.elim
      | _ => cases dy <;> exact k.elim

/-! ### slots wiped and laid back -/
def wipeD (ρ : EnvD) : List Nat → EnvD
  | [] => ρ
  | v :: vs => (wipeD ρ vs).set v none
theorem Slots.sig : ∀ {Γ : List Md} {σ : L2.St} {ρ : EnvD} {fp : List Addr} {i : Nat} (s : Option V), Slots C F H Γ σ ρ fp → ρ[i]? = some none → Slots C F H Γ (σ.set i s) ρ fp
  | [], [], [], _, i, s, h, _ => h
  | m1 :: Γ, s1 :: σ, r :: ρ, _, 0, s, ⟨f1, f2, h1, h2, h3⟩, e => by
    have e : r = none := by simpa using e
    subst e
    exact ⟨f1, f2, h1, h2, h3⟩
  | m1 :: Γ, s1 :: σ, r :: ρ, _, i + 1, s, ⟨f1, f2, h1, h2, h3⟩, e => ⟨f1, f2, h1, h2, Slots.sig s h3 (by simpa using e)⟩
theorem Rep.sig {i : Nat} (s : Option V) (r : Rep C F H Γ σ ρ L) (e : ρ[i]? = some none) (hio : ∀ p ∈ C.io, p.1 ≠ i) : Rep C F H Γ (σ.set i s) ρ L := by
  obtain ⟨f1, f2, nd, a, b⟩ := r.own
  refine ⟨r.fit, fun p hp => ?_, f1, f2, nd, a.sig s e, b⟩
  rw [List.getElem?_set_ne (Ne.symm (hio p hp))]
  exact r.io p hp
theorem Rep.wipe1 {i : Nat} (r : Rep C F H Γ σ ρ L) (hΓ : Γ.all Md.stor = true) (hio : ∀ p ∈ C.io, p.1 ≠ i) : ∃ S : List Ent, storL S ∧ Rep C F H Γ (σ.set i none) (ρ.set i none) (S ++ L) ∧
    ∀ F' H' L', Rep C F' H' Γ (σ.set i none) (ρ.set i none) (S ++ L') → Rep C F' H' Γ σ ρ L' := by
  obtain ⟨f1, f2, nd, a, b⟩ := id r.own
  obtain ⟨l1, l2⟩ := a.len
  cases e : ρ[i]? with
  | none =>
    have hl := List.getElem?_eq_none_iff.mp e
    have e1 : ρ.set i none = ρ := List.set_eq_of_length_le hl
    have e2 : σ.set i none = σ := List.set_eq_of_length_le (by rw [l1, ← l2]; exact hl)
    rw [e1, e2]
    exact ⟨[], rfl, r, fun F' H' L' h => h⟩
  | some o =>
    cases o with
    | none =>
      have e1 : ρ.set i none = ρ := set_id e
      rw [e1]
      have hl := (List.getElem?_eq_some_iff.mp e).1
      refine ⟨[], rfl, r.sig none e hio, fun F' H' L' h => ?_⟩
      have h2 := Rep.sig (σ[i]'(by rw [l1, ← l2]; exact hl)) h e hio
      rw [set_set', set_id (List.getElem?_eq_getElem _)] at h2
      exact h2
    | some d =>
      have hl := (List.getElem?_eq_some_iff.mp e).1
      have hl2 : i < Γ.length := by rw [← l2]; exact hl
      have em := List.getElem?_eq_getElem hl2
      obtain ⟨v, h1, r1⟩ := r.take em e
      have en : (ρ.set i none)[i]? = some none := List.getElem?_set_self hl
      refine ⟨[(Γ[i], d, v)], storL_cons (List.all_eq_true.mp hΓ _ (List.getElem_mem hl2)) rfl, r1.sig none en hio, fun F' H' L' h => ?_⟩
      have h2 := Rep.sig (some v) h en hio
      rw [set_set', set_id h1] at h2
      have h3 := Rep.back (L := L') h2 h1 (.inl em)
      rw [set_set', set_id e, set_id em] at h3
      exact h3
theorem Rep.wipe : ∀ {vs : List Nat}, Rep C F H Γ σ ρ L → Γ.all Md.stor = true → (∀ p ∈ C.io, ∀ i ∈ vs, p.1 ≠ i) → ∃ S : List Ent, storL S ∧ Rep C F H Γ (L2.wipe σ vs) (wipeD ρ vs) (S ++ L) ∧
    ∀ F' H' L', Rep C F' H' Γ (L2.wipe σ vs) (wipeD ρ vs) (S ++ L') → Rep C F' H' Γ σ ρ L'
  | [], r, _, _ => ⟨[], rfl, r, fun F' H' L' h => h⟩
  | i :: vs, r, hΓ, hio => by
    obtain ⟨S, h1, h2, h3⟩ := Rep.wipe (vs := vs) r hΓ fun p hp j hj => hio p hp j (List.mem_cons_of_mem _ hj)
    obtain ⟨S2, g1, g2, g3⟩ := h2.wipe1 (i := i) hΓ fun p hp => hio p hp i List.mem_cons_self
    refine ⟨S2 ++ S, storL_app g1 h1, ?_, fun F' H' L' h => h3 F' H' L' (g3 F' H' _ ?_)⟩
    · rw [List.append_assoc]; exact g2
    · rw [← List.append_assoc]; exact h
/-- slots forgotten -/
theorem Rep.forget : ∀ {vs : List Nat}, Rep C F H Γ σ ρ L → (∀ p ∈ C.io, ∀ i ∈ vs, p.1 ≠ i) → Rep C F H Γ (L2.wipe σ vs) (wipeD ρ vs) L
  | [], r, _ => r
  | i :: vs, r, hio => by
    have h := Rep.forget (vs := vs) r fun p hp j hj => hio p hp j (List.mem_cons_of_mem _ hj)
    obtain ⟨f1, f2, nd, a, b⟩ := h.own
    obtain ⟨x, y, z, h4, h5⟩ := a.drop (i := i) none
    subst h4
    refine ⟨h.fit, fun p hp => ?_, x ++ z, f2, ?_, h5, b⟩
    · show ((L2.wipe σ vs).set i none)[p.1]? = _ ∧ _
      rw [List.getElem?_set_ne (Ne.symm (hio p hp i List.mem_cons_self))]
      exact h.io p hp
    · refine nd.sublist (List.Sublist.append ?_ (List.Sublist.refl _))
      exact List.Sublist.append (List.Sublist.refl _) (List.sublist_append_right _ _)
theorem wipe_idem (σ : L2.St) : ∀ vs : List Nat, L2.wipe (L2.wipe σ vs) vs = L2.wipe σ vs := by
  have key : ∀ (us vs : List Nat), (∀ i ∈ us, i ∈ vs) → L2.wipe (L2.wipe σ us) vs = L2.wipe σ vs := by
    intro us
    induction us with
    | nil => intro vs _; rfl
    | cons i us ih =>
      intro vs h
      show L2.wipe ((L2.wipe σ us).set i none) vs = _
      rw [wipe_set _ i none vs (h i List.mem_cons_self)]
      exact ih vs fun j hj => h j (List.mem_cons_of_mem _ hj)
  exact fun vs => key vs vs fun _ h => h
theorem wipeD_set (ρ : EnvD) (i : Nat) (x : Option DV) : ∀ vs : List Nat, i ∈ vs → wipeD (ρ.set i x) vs = wipeD ρ vs
  | [], h => by cases h
  | w :: vs, h => by
    show (wipeD (ρ.set i x) vs).set w none = (wipeD ρ vs).set w none
    by_cases e : i ∈ vs
    · rw [wipeD_set ρ i x vs e]
    · have hw : i = w := by
        rcases List.mem_cons.mp h with h | h
        · exact h
        · exact absurd h e
      subst hw
      clear h
      have key : ∀ vs : List Nat, i ∉ vs → wipeD (ρ.set i x) vs = (wipeD ρ vs).set i x := by
        intro vs
        induction vs with
        | nil => intro _; rfl
        | cons u vs ih =>
          intro hn
          show (wipeD (ρ.set i x) vs).set u none = ((wipeD ρ vs).set u none).set i x
          rw [ih fun z => hn (List.mem_cons_of_mem _ z)]
          have : i ≠ u := fun z => hn (z ▸ List.mem_cons_self)
          exact List.set_comm _ _ this
      rw [key vs e, set_set']
theorem wipeD_idem (ρ : EnvD) : ∀ vs : List Nat, wipeD (wipeD ρ vs) vs = wipeD ρ vs := by
  have key : ∀ (us vs : List Nat), (∀ i ∈ us, i ∈ vs) → wipeD (wipeD ρ us) vs = wipeD ρ vs := by
    intro us
    induction us with
    | nil => intro vs _; rfl
    | cons i us ih =>
      intro vs h
      show wipeD ((wipeD ρ us).set i none) vs = _
      rw [wipeD_set _ i none vs (h i List.mem_cons_self)]
      exact ih vs fun j hj => h j (List.mem_cons_of_mem _ hj)
  exact fun vs => key vs vs fun _ h => h
/-- this target stores within these slots -/
def Keeps (tg : GG) (vs : List Nat) : Prop := ∀ d ρ ρ', tg d ρ = .ok ρ' → wipeD ρ' vs = wipeD ρ vs
theorem keeps_name {i : Nat} {vs : List Nat} (h : i ∈ vs) : Keeps (gtName i) vs := fun d ρ ρ' e => by
  cases e
  exact wipeD_set ρ i _ vs h
theorem setAll_wipe {vs : List Nat} : ∀ {is : List Nat} {ds : List DV} {ρ : EnvD}, (∀ i ∈ is, i ∈ vs) → wipeD (setAll is ds ρ) vs = wipeD ρ vs
  | [], _, _, _ => by unfold setAll; rfl
  | i :: is, [], _, _ => by unfold setAll; rfl
  | i :: is, d :: ds, ρ, h => by
    show wipeD (setAll is ds (ρ.set i (some d))) vs = _
    rw [setAll_wipe fun j hj => h j (List.mem_cons_of_mem _ hj)]
    exact wipeD_set ρ i _ vs (h i List.mem_cons_self)
theorem keeps_tup {is vs : List Nat} (h : ∀ i ∈ is, i ∈ vs) : Keeps (gtTup is) vs := fun d ρ ρ' e => by
  cases d with
  | tup ds =>
    have e : (if ds.length = is.length then Rs.ok (setAll is ds ρ) else .stuck) = .ok ρ' := e
    split at e
    · cases e; exact setAll_wipe h
    · cases e
  | _ => cases e
end
end DL
end

/-! text DL9 -/
section
set_option maxRecDepth 100000
set_option maxHeartbeats 4000000
/-! the data layer, part 9: comprehensions; stores -/
namespace DL
open PySem PySem.Spec PyProof.Rows L2
section
variable {C : Cxt} {W : Wx} {F F' H H' : Hp} {Γ : List Md} {σ : L2.St} {ρ : EnvD} {L : List Ent} {m ma mb mr me mi : Md} {d : DV} {v : V} {st : Bool}
/-- the heap without p -/
def hide (p : Addr) (H : Hp) : Hp := fun a => if a = p then none else H a
theorem hide_same {p : Addr} (s : Same H H') : Same (hide p H) (hide p H') := fun a o e => by
  unfold hide at e ⊢
  split at e
  · cases e
  · rename_i h
    rw [if_neg h]
    exact s _ _ e
theorem hide_upd {p : Addr} {o : HO} : Same (hide p H) (upd H p o) := fun a u e => by
  unfold hide at e
  split at e
  · cases e
  · rename_i h
    rw [upd_ne h]
    exact e
theorem hide_upd2 {p : Addr} {o : HO} : hide p (upd H p o) = hide p H := by
  funext a
  unfold hide
  split
  · rfl
  · rename_i h
    rw [upd_ne h]
theorem hide_new {p : Addr} (np : H p = none) : Same H (hide p H) := fun a u e => by
  unfold hide
  rw [if_neg (ne_of_none e np)]
  exact e
/-- entries that a write at p leaves as they are -/
def Safe (C : Cxt) (F : Hp) (p : Addr) (H : Hp) (L : List Ent) : Prop := ∀ e ∈ L, e.1.stor = true ∨ (e.1.free = true ∧ At C F (hide p H) e.1 e.2.1 e.2.2 [])
theorem Safe.of {p : Addr} (h : storL L) : Safe C F p H L := fun e he => .inl (List.all_eq_true.mp h e he)
theorem Safe.mono {p : Addr} (h : Safe C F p H L) (a : Same F F') (b : Same H H') : Safe C F' p H' L := fun e he => (h e he).imp_right fun ⟨q, x⟩ => ⟨q, x.mono a (fun _ z => by cases z) (fun _ z => by cases z) (.inr (hide_same b))⟩
theorem Safe.upd {p : Addr} {o : HO} (h : Safe C F p H L) : Safe C F p (upd H p o) L := fun e he => by
  rw [hide_upd2]
  exact h e he
theorem Exs.safe {p : Addr} {o : HO} : ∀ {L : List Ent} {fp : List Addr}, Exs C F H L fp → Safe C F p H L → (∀ a ∈ fp, F a = none) → (∀ a ∈ fp, a ≠ p) → Exs C F (L2.upd H p o) L fp
  | [], _, h, _, _, _ => h
  | (m, d, v) :: L, _, ⟨f1, f2, h1, h2, h3⟩, s, n, k => by
    subst h1
    have h4 := Exs.safe (o := o) h3 (fun e he => s e (List.mem_cons_of_mem _ he)) (fun a ha => n a (List.mem_append_right _ ha)) (fun a ha => k a (List.mem_append_right _ ha))
    refine ⟨f1, f2, rfl, ?_, h4⟩
    rcases s (m, d, v) List.mem_cons_self with q | ⟨q, x⟩
    · exact h2.mono (Same.refl _) (fun a ha => n a (List.mem_append_left _ ha)) (fun a ha => upd_ne (k a (List.mem_append_left _ ha))) (.inl q)
    · have e := h2.free_nil q
      subst e
      exact x.mono (Same.refl _) (fun _ z => by cases z) (fun _ z => by cases z) (.inr hide_upd)
/-- a list of one's own grows by what the first entry holds -/
theorem Rep.push {ds : List DV} {y : V} (r : Rep C F H Γ σ ρ ((m, d, y) :: (.own m, .lst ds, v) :: L)) (hΓ : Γ.all Md.stor = true) (qm : m.stor = true) :
    ∃ p vs, v = .ref p ∧ H p = some (.lst vs) ∧ ds.length = vs.length ∧ F p = none ∧ C.Bp p = none ∧ (Safe C F p H L → Rep C F (L2.upd H p (.lst (vs ++ [y]))) Γ σ ρ ((.own m, .lst (ds ++ [d]), v) :: L)) := by
  obtain ⟨f1, f2, nd, a, g1, g2, h1, h2, g3, g4, h3, h4, h5⟩ := r.own
  unfold At at h4
  rw [if_pos (show isLD (.lst ds) = true from rfl)] at h4
  obtain ⟨p, vs, o, fc, e1, e2, e3, e4, e5, e6, e7⟩ := h4
  obtain rfl : o = .lst vs := e5
  subst e1
  subst e6
  subst h3
  subst h1
  refine ⟨p, vs, rfl, e4, e7.length, e2, e3, fun sf => ?_⟩
  -- f1 ++ (g1 ++ ((p :: fc) ++ g4)) has no address twice
  have np := List.nodup_append.mp nd
  have np2 := List.nodup_append.mp np.2.1
  have np3 := List.nodup_append.mp np2.2.1
  have np4 := List.nodup_cons.mp np3.1
  have n1 : ∀ x ∈ f1, x ≠ p := fun x hx e => np.2.2 x hx p (List.mem_append_right _ (List.mem_append_left _ List.mem_cons_self)) e
  have n2 : ∀ x ∈ g1, x ≠ p := fun x hx e => np2.2.2 x hx p (List.mem_append_left _ List.mem_cons_self) e
  have n3 : ∀ x ∈ fc, x ≠ p := fun x hx e => np4.1 (e ▸ hx)
  have n4 : ∀ x ∈ g4, x ≠ p := fun x hx e => np3.2.2 p List.mem_cons_self x hx e.symm
  have o1 := a.owned
  have o2 := h2.owned
  have o4 := h5.owned
  have nm : ∀ x u, L2.upd H p (.lst (vs ++ [y])) x = some u → tupO u = true → H x = some u := fun x u e t => by
    by_cases z : x = p
    · subst z; rw [upd_same] at e; cases e; cases t
    · rw [upd_ne z] at e; exact e
  have lq : ∀ x u, x ≠ p → H x = some u → L2.upd H p (.lst (vs ++ [y])) x = some u := fun x u z e => by rw [upd_ne z]; exact e
  have fit : Fit C F (L2.upd H p (.lst (vs ++ [y]))) := ⟨r.fit.ff, fun x u e => lq x u (fun z => by rw [z, e2] at e; cases e) (r.fit.fh _ _ e), fun x u e => lq x u (fun z => by rw [z, e3] at e; cases e) (r.fit.bh _ _ e), r.fit.f0, fun x u e t => r.fit.tp x u (nm x u e t) t⟩
  have stm : ∀ {m : Md} {d : DV} {v : V} {f : List Addr}, m.stor = true → At C F H m d v f → (∀ x ∈ f, x ≠ p) → At C F (L2.upd H p (.lst (vs ++ [y]))) m d v f := fun q x k => x.mono (Same.refl _) (fun z hz => (x.owned z hz).1) (fun z hz => upd_ne (k z hz)) (.inl q)
  refine ⟨fit, r.io, f1, (p :: (fc ++ g1)) ++ g4, ?_, a.mono (Same.refl _) (fun x hx => (o1 x hx).1) (fun x hx => upd_ne (n1 x hx)) (.inl hΓ), p :: (fc ++ g1), g4, rfl, ?_, h5.safe sf (fun x hx => (o4 x hx).1) n4⟩
  · refine List.Perm.nodup (l := f1 ++ (g1 ++ ((p :: fc) ++ g4))) (List.Perm.append (List.Perm.refl _) ?_) nd
    rw [← List.append_assoc]
    refine List.Perm.append ?_ (List.Perm.refl _)
    exact List.perm_append_comm
  · unfold At
    rw [if_pos (show isLD (.lst (ds ++ [d])) = true from rfl)]
    refine ⟨p, vs ++ [y], _, fc ++ g1, rfl, e2, e3, upd_same, rfl, rfl, ?_⟩
    exact (e7.imp fun d v f hf x => stm qm x fun z hz => n3 z (hf z hz)).append (Alls.one (stm qm h2 n2))

/-! ### entries in another order -/
theorem Exs.perm {L L' : List Ent} (p : L.Perm L') : ∀ {f : List Addr}, Exs C F H L f → ∃ f', f.Perm f' ∧ Exs C F H L' f' := by
  induction p with
  | nil => exact fun {f} h => ⟨f, List.Perm.refl _, h⟩
  | cons e _ ih =>
    obtain ⟨m, d, v⟩ := e
    intro f ⟨f1, f2, h1, h2, h3⟩
    obtain ⟨g, pg, h4⟩ := ih h3
    exact ⟨f1 ++ g, by rw [h1]; exact List.Perm.append (List.Perm.refl _) pg, f1, g, rfl, h2, h4⟩
  | swap a b l =>
    obtain ⟨m, d, v⟩ := a
    obtain ⟨m2, d2, v2⟩ := b
    intro f ⟨f1, f2, h1, h2, f3, f4, h3, h4, h5⟩
    refine ⟨f3 ++ (f1 ++ f4), ?_, f3, f1 ++ f4, rfl, h4, f1, f4, rfl, h2, h5⟩
    rw [h1, h3, ← List.append_assoc, ← List.append_assoc]
    exact List.Perm.append List.perm_append_comm (List.Perm.refl _)
  | trans _ _ ih1 ih2 =>
    intro f h
    obtain ⟨g, pg, h1⟩ := ih1 h
    obtain ⟨g2, pg2, h2⟩ := ih2 h1
    exact ⟨g2, pg.trans pg2, h2⟩
theorem Rep.permL {L' : List Ent} (r : Rep C F H Γ σ ρ L) (p : L.Perm L') : Rep C F H Γ σ ρ L' := by
  obtain ⟨f1, f2, nd, a, b⟩ := r.own
  obtain ⟨f3, pf, b2⟩ := b.perm p
  exact ⟨r.fit, r.io, f1, f3, (List.Perm.append (List.Perm.refl _) pf).nodup nd, a, b2⟩
theorem Exs.each : ∀ {L : List Ent} {fp : List Addr}, Exs C F H L fp → ∀ e ∈ L, ∃ f, At C F H e.1 e.2.1 e.2.2 f
  | (m, d, v) :: L, _, ⟨f1, f2, h1, h2, h3⟩, e, he => by
    rcases List.mem_cons.mp he with rfl | he
    · exact ⟨f1, h2⟩
    · exact Exs.each h3 e he
theorem Rep.safe0 {D : Addr} (r : Rep C F H Γ σ ρ L) (hL : okL L) (nD : H D = none) : Safe C F D H L := fun e he => (hL e he).imp_right fun q => by
  obtain ⟨f1, f2, nd, a, b⟩ := r.own
  obtain ⟨f, h⟩ := b.each e he
  have ef := h.free_nil q
  subst ef
  exact ⟨q, h.mono (Same.refl _) (fun _ z => by cases z) (fun _ z => by cases z) (.inr (hide_new nD))⟩

/-! ### comprehensions -/
def consO : Option DV → List DV → List DV
  | some x, r => x :: r
  | none, r => r
/-- what a turn gives: nothing, or one more item -/
def lcLoop (f : DV → Rs (Option DV)) : List DV → Rs (List DV)
  | [] => .ok []
  | d :: ds => (f d).bind fun o => (lcLoop f ds).bind fun r => .ok (consO o r)
def lcTurn (tg : GG) (gt : GT) (ge : GE) (ρ : EnvD) (d : DV) : Rs (Option DV) := (tg d ρ).bind fun ρ' => (gt ρ').bind fun b => if b = true then (ge ρ').bind fun x => .ok (some x) else .ok none
def gLc (gi : GI) (tg : GG) (gt : GT) (ge : GE) (vs : List Nat) : GE := fun ρ => (gi ρ).bind fun its => if its.length ≤ sizeLine then (lcLoop (lcTurn tg gt ge (wipeD ρ vs)) its).bind fun r => .ok (.lst r) else .stuck
theorem PE'.exOf {Q : VK} {c : Str} {x : DV} {r : Rs DV} (h : PE' C W Γ F H σ ρ L m Q r) (e : r = .ex c x) : ∀ F' H', Same F F' → Same H H' → Fit C F' H' → W c x H' := by
  subst e
  exact h
theorem se_lc {wi : TI} {gi : GI} {g : TG} {tg : GG} {tt : TT} {gt : GT} {te : TE} {ge : GE} {is vs : List Nat} (hi : SI C W Γ wi gi mi false) (hg : SN C Γ g tg mi is) (hk : Keeps tg vs) (hx : ∀ d ρ c e, tg d ρ ≠ .ex c e) (hv : ∀ i ∈ is, i ∈ vs) (ht : ST C W Γ tt gt) (he : SE C W Γ te ge me)
    (hΓ : Γ.all Md.stor = true) (qm : me.stor = true) (hio : ∀ p ∈ C.io, ∀ i ∈ vs, p.1 ≠ i) : SE C W Γ (tLc wi g tt te vs) (gLc gi tg gt ge vs) (.own me) := by
  intro F H σ ρ L Q hL r k
  refine hi F H σ ρ L _ hL r ?_
  unfold gLc at k
  revert k
  cases gi ρ with
  | ex c d => exact fun k => k
  | stuck => exact fun k => k
  | ok its =>
    intro k F1 H1 J E s1 s2 _ hA r1 w
    have k : PE' C W Γ F H σ ρ L (.own me) Q (if its.length ≤ sizeLine then (lcLoop (lcTurn tg gt ge (wipeD ρ vs)) its).bind fun r => .ok (.lst r) else .stuck) := k
    split at k
    case isFalse => exact k.elim
    case isTrue hz =>
    intro D nD
    obtain ⟨S, hS, r2, back⟩ := r1.wipe (vs := vs) hΓ hio
    have hSL : okL (S ++ L) := fun e he => by
      rcases List.mem_append.mp he with h | h
      · exact .inl (List.all_eq_true.mp hS e h)
      · exact hL e h
    have hE : okL E := fun e he => .inr (hA e he).1
    have hESL : okL (E ++ (S ++ L)) := fun e he => by
      rcases List.mem_append.mp he with h | h
      · exact hE e h
      · exact hSL e h
    have pm : (S ++ (E ++ L)).Perm (E ++ (S ++ L)) := by
      rw [← List.append_assoc, ← List.append_assoc]
      exact List.Perm.append List.perm_append_comm (List.Perm.refl _)
    have r3 := r2.permL pm
    -- the accumulated items, the state between two turns
    let Inv : Nat → Hp → Prop := fun i H' => ∃ (F' : Hp) (acc : List DV), Same F1 F' ∧ Same H1 (hide D H') ∧ acc.length ≤ i ∧ Rep C F' H' Γ (L2.wipe σ vs) (wipeD ρ vs) ((.own me, .lst acc, .ref D) :: (E ++ (S ++ L))) ∧ Safe C F' D H' (E ++ (S ++ L)) ∧
      PE' C W Γ F1 H1 σ ρ L (.own me) Q ((lcLoop (lcTurn tg gt ge (wipeD ρ vs)) (its.drop i)).bind fun r => .ok (.lst (acc ++ r)))
    refine ⟨fun i n H => i + n = its.length ∧ Inv i H, ⟨its.length, by omega, F1, [], Same.refl _, ?_, Nat.le_refl _, r3.newl nD ⟨rfl, rfl⟩, ?_, k.mono s1 s2⟩, fun i n H2 hW => ?_⟩
    · rw [hide_upd2]
      exact hide_new nD
    · exact (r3.safe0 hESL nD).upd
    · obtain ⟨en, F2, acc, s3, s4, la, r4, sf, k2⟩ := hW
      have s4' : Same H1 H2 := fun a o e => by
        have h := s4 a o e
        unfold hide at h
        split at h
        · cases h
        · exact h
      have rW : Rep C F2 H2 Γ (L2.wipe σ vs) (wipeD ρ vs) (E ++ ((.own me, .lst acc, .ref D) :: (S ++ L))) := r4.permL (List.perm_middle.symm)
      obtain ⟨w1, w2⟩ := w i F2 H2 Γ (L2.wipe σ vs) (wipeD ρ vs) _ rW
      cases e : its[i]? with
      | none =>
        have hl := List.getElem?_eq_none_iff.mp e
        rw [List.drop_of_length_le hl] at k2
        refine .inl ⟨w1 hl, ?_⟩
        have k3 : PE' C W Γ F1 H1 σ ρ L (.own me) Q (.ok (.lst (acc ++ []))) := k2
        rw [List.append_nil] at k3
        refine k3 F2 H2 (.ref D) s3 s4' (back F2 H2 _ ?_)
        have r5 : Rep C F2 H2 Γ (L2.wipe σ vs) (wipeD ρ vs) (((.own me, .lst acc, .ref D) :: (S ++ L))) := rW.dropE
        exact r5.permL (List.perm_middle.symm)
      | some d =>
        have hl := (List.getElem?_eq_some_iff.mp e).1
        have ed : its.drop i = d :: its.drop (i + 1) := by
          rw [List.drop_eq_getElem_cons hl, (List.getElem?_eq_some_iff.mp e).2]
        rw [ed] at k2
        obtain ⟨w3, w4⟩ := w2 d e
        refine .inr ⟨w3, fun H' => Inv (i + 1) H', fun H' h => ⟨n - 1, by omega, by omega, h⟩, fun x H3 hy => ?_⟩
        obtain ⟨F3, s5, s6, r5⟩ := w4 x H3 hy
        have k2 : PE' C W Γ F1 H1 σ ρ L (.own me) Q (((lcTurn tg gt ge (wipeD ρ vs) d).bind fun o => (lcLoop (lcTurn tg gt ge (wipeD ρ vs)) (its.drop (i + 1))).bind fun r => .ok (consO o r)).bind fun r => .ok (.lst (acc ++ r))) := k2
        have r5 : Rep C F3 H3 Γ (L2.wipe σ vs) (wipeD ρ vs) ((mi, d, x) :: ((.own me, .lst acc, .ref D) :: (E ++ (S ++ L)))) := r5.permL (List.Perm.cons _ List.perm_middle)
        unfold lcTurn at k2
        cases et : tg d (wipeD ρ vs) with
        | ex c d => exact absurd et (hx _ _ _ _)
        | stuck => rw [et] at k2; exact k2.elim
        | ok ρ2 =>
          rw [et] at k2
          refine hg F3 H3 (L2.wipe σ vs) (wipeD ρ vs) _ d x ρ2 _ r5 et fun σ2 hw r6 => ?_
          have ew : L2.wipe σ2 vs = L2.wipe σ vs := (hw vs hv).trans (wipe_idem σ vs)
          have ewD : wipeD ρ2 vs = wipeD ρ vs := (hk d _ ρ2 et).trans (wipeD_idem ρ vs)
          have hO : okL ((.own me, .lst acc, .ref D) :: (E ++ (S ++ L))) := okL_cons (by show (me.stor || false) = true; rw [qm]; rfl) hESL
          refine ⟨ew, ?_⟩
          refine ht F3 H3 σ2 ρ2 _ _ hO r6 ?_
          revert k2
          show PE' C W Γ F1 H1 σ ρ L (.own me) Q ((((gt ρ2).bind fun b => if b = true then (ge ρ2).bind fun x => Rs.ok (some x) else .ok none).bind fun o => (lcLoop (lcTurn tg gt ge (wipeD ρ vs)) (its.drop (i + 1))).bind fun r => .ok (consO o r)).bind fun r => .ok (.lst (acc ++ r))) → _
          have sh : ∀ {H4 : Hp}, Same H3 H4 → Same H1 (hide D H4) := fun s => s4.trans (hide_same (s6.trans s))
          cases gt ρ2 with
          | ex c d => exact fun k F4 H4 s7 s8 f => k F4 H4 (s3.trans (s5.trans s7)) (s4'.trans (s6.trans s8)) f
          | stuck => exact fun k => k
          | ok b =>
            intro k F4 H4 s7 s8 r7
            cases b with
            | false =>
              show Inv (i + 1) H4
              have k3 : PE' C W Γ F1 H1 σ ρ L (.own me) Q (((lcLoop (lcTurn tg gt ge (wipeD ρ vs)) (its.drop (i + 1))).bind fun r => .ok (consO none r)).bind fun r => .ok (.lst (acc ++ r))) := k
              rw [bind2] at k3
              have r8 := r7.forget (vs := vs) hio
              rw [ew, ewD] at r8
              exact ⟨F4, acc, s3.trans (s5.trans s7), sh s8, Nat.le_succ_of_le la, r8, (sf.mono (s5.trans s7) (s6.trans s8)), k3⟩
            | true =>
              show te σ2 H4 _
              refine he F4 H4 σ2 ρ2 _ _ hO r7 ?_
              revert k
              show PE' C W Γ F1 H1 σ ρ L (.own me) Q ((((ge ρ2).bind fun x => Rs.ok (some x)).bind fun o => (lcLoop (lcTurn tg gt ge (wipeD ρ vs)) (its.drop (i + 1))).bind fun r => .ok (consO o r)).bind fun r => .ok (.lst (acc ++ r))) → _
              cases ge ρ2 with
              | ex c d => exact fun k F5 H5 s9 s10 f => k F5 H5 (s3.trans (s5.trans (s7.trans s9))) (s4'.trans (s6.trans (s8.trans s10))) f
              | stuck => exact fun k => k
              | ok dy =>
                intro k F5 H5 y s9 s10 r8
                have k3 : PE' C W Γ F1 H1 σ ρ L (.own me) Q (((lcLoop (lcTurn tg gt ge (wipeD ρ vs)) (its.drop (i + 1))).bind fun r => .ok (dy :: r)).bind fun r => .ok (.lst (acc ++ r))) := k
                rw [bind2] at k3
                obtain ⟨p, ws, z1, z2, z3, z4, z5, z6⟩ := r8.push hΓ qm
                cases z1
                have sf5 : Safe C F5 D H5 (E ++ (S ++ L)) := sf.mono (s5.trans (s7.trans s9)) (s6.trans (s8.trans s10))
                refine ⟨ws, z2, by rw [← z3]; exact Nat.lt_of_le_of_lt la (Nat.lt_of_lt_of_le hl hz), ?_⟩
                have r9 := (z6 sf5).forget (vs := vs) hio
                rw [ew, ewD] at r9
                refine ⟨F5, acc ++ [dy], s3.trans (s5.trans (s7.trans s9)), ?_, by rw [List.length_append]; exact Nat.succ_le_succ la, r9, sf5.upd, ?_⟩
                · rw [hide_upd2]
                  exact sh (s8.trans s10)
                · have e3 : (fun r : List DV => (Rs.ok (DV.lst ((acc ++ [dy]) ++ r)) : Rs DV)) = fun r => (Rs.ok (dy :: r)).bind fun r => .ok (.lst (acc ++ r)) := by
                    funext r
                    show _ = Rs.ok (DV.lst (acc ++ (dy :: r)))
                    rw [List.append_assoc]
                    rfl
                  rw [e3]
                  exact k3
end
end DL
end

/-! text DL10 -/
section
set_option maxRecDepth 100000
set_option maxHeartbeats 4000000
/-! the data layer, part 10: defs, their calls, the law -/
namespace DL
open PySem PySem.Spec PyProof.Rows L2
abbrev C0 (K : PySem.W.Frag) (mg : Str → Option Value) (H F : Hp) : Cxt := ⟨K, mg, H, F, []⟩
def ArgsAt (C : Cxt) (F H : Hp) : List Md → List DV → List V → Prop
  | [], [], [] => True
  | m :: ms, d :: ds, v :: vs => At C F H m d v [] ∧ ArgsAt C F H ms ds vs
  | _, _, _ => False
def PD (C : Cxt) (XW : Wx) (F : Hp) (mr : Md) (Q : VK) : Rs DV → Prop
  | .ok d => ∀ F' H' v fp, Same F F' → Fit C F' H' → At C F' H' mr d v fp → fp.Nodup → Q v H'
  | .ex c d => ∀ F' H', Same F F' → Fit C F' H' → XW c d H'
  | .stuck => False
/-- a def's promise by its mirror -/
def spD (K : PySem.W.Frag) (mg : Str → Option Value) (XW : XK → Wx) (pm : List Md) (mr : Md) (f : List DV → Rs DV) : Sp := fun vs H Q E =>
  ∃ F ds, Fit (C0 K mg H F) F H ∧ ArgsAt (C0 K mg H F) F H pm ds vs ∧ PD (C0 K mg H F) (XW E) F mr Q (f ds)
def X0 : XK → Wx := fun _ _ _ _ => False
def W0 : Wx := fun _ _ _ => False
theorem ArgsAt.len {C : Cxt} {F H : Hp} : ∀ {ms : List Md} {ds : List DV} {vs : List V}, ArgsAt C F H ms ds vs → ds.length = ms.length ∧ vs.length = ms.length
  | [], [], [], _ => ⟨rfl, rfl⟩
  | m :: ms, d :: ds, v :: vs, h => by
    obtain ⟨a, b⟩ := ArgsAt.len h.2
    exact ⟨by rw [List.length_cons, List.length_cons, a], by rw [List.length_cons, List.length_cons, b]⟩
  | [], _ :: _, _, h => h.elim
  | [], [], _ :: _, h => h.elim
  | _ :: _, [], _, h => h.elim
  | _ :: _, _ :: _, [], h => h.elim
def startD (n : Nat) (ds : List DV) : EnvD := ds.map some ++ List.replicate (n - ds.length) none
def finB : Out → Rs DV
  | .nx _ => .ok .non
  | .rt d _ => .ok d
  | .ex c d => .ex c d
  | _ => .stuck
/-- a def's mirror by its body's, over n slots -/
def runB (g : GS) (n : Nat) (ds : List DV) : Rs DV := finB (g (startD n ds))
section
variable {C : Cxt} {W : Wx} {F F' H H' : Hp} {Γ : List Md} {σ : L2.St} {ρ : EnvD} {L : List Ent} {m ma mb mr me mi : Md} {d : DV} {v : V}
theorem slots_none : ∀ (Γ : List Md), Slots C F H Γ (List.replicate Γ.length none) (List.replicate Γ.length none) []
  | [] => rfl
  | m :: Γ => ⟨[], [], rfl, rfl, slots_none Γ⟩
theorem slots_start : ∀ {pm : List Md} {ds : List DV} {vs : List V} (Γ : List Md), ArgsAt C F H pm ds vs → Slots C F H (pm ++ Γ) (vs.map some ++ List.replicate Γ.length none) (ds.map some ++ List.replicate Γ.length none) []
  | [], [], [], Γ, _ => slots_none Γ
  | m :: pm, d :: ds, v :: vs, Γ, h => ⟨[], [], rfl, ⟨v, rfl, h.1⟩, slots_start Γ h.2⟩
  | [], _ :: _, _, _, h => h.elim
  | [], [], _ :: _, _, h => h.elim
  | _ :: _, [], _, _, h => h.elim
  | _ :: _, _ :: _, [], _, h => h.elim
/-- THE RULE of a def that lets no exception out -/
theorem fnD {P : Program} {w : World} {K : PySem.W.Frag} {mg : Str → Option Value} {base : Heap} {k : Nat} {x qual : Str} {st : Stmt} {f : Addr} {fd : FuncData} {N ps : List Str} {pm Γl : List Md} {mr : Md} {g : GS}
    (Fn : FunD K x qual (defArgs st) (defBody st) (defScope st) [] [] f fd) (S : FnScope N ps (defScope st)) (hp : pm.length = ps.length) (hN : pm.length + Γl.length = N.length) (qr : mr.rd = true)
    (hb : ∀ (cdv : Value) (A : Around) (outer : List PySem.Env) (s : Shared) (H : Hp) (E : XK), Room k (A.deeper (envOfC qual (defScope st) s.heap.objs.size f cdv)) →
      ∃ t, PSs (cxOf CX0 P w K mg base N qual (defScope st) f cdv A outer s H E).nox (defBody st) t ∧ ∀ (Bp F0 : Hp), ∃ Γ', SS ⟨K, mg, Bp, F0, []⟩ W0 mr [] (pm ++ Γl) t g Γ') :
    FnOk P w K mg base CX0 (k + 1) f fd ps (spD K mg X0 pm mr (runB g N.length)) := by
  refine Fn.ok S (fun vs H Q E h => ?_) fun cdv A outer s H vs Q E hr h => ?_
  · obtain ⟨F, ds, _, h2, _⟩ := h
    rw [h2.len.2, hp]
  · obtain ⟨F, ds, h1, h2, h3⟩ := h
    obtain ⟨t, ht, hs⟩ := hb cdv A outer s H E hr
    obtain ⟨l1, l2⟩ := h2.len
    obtain ⟨Γ', hs⟩ := hs H F
    refine ⟨t, ht.nox, hs F H (start N vs) (startD N.length ds) [] _ rfl ?_ ?_⟩
    · refine ⟨h1, fun p hp => (by cases hp), [], [], List.nodup_nil, ?_, rfl⟩
      unfold L2.start startD
      rw [l1, l2, show N.length - pm.length = Γl.length by omega]
      exact slots_start Γl h2
    · unfold runB at h3
      revert h3
      cases g (startD N.length ds) with
      | nx ρ' => exact fun h3 F1 H1 σ1 s1 r1 => h3 F1 H1 .non [] s1 r1.fit (At.flat qr rfl) List.nodup_nil
      | rt d ρ' =>
        intro h3 F1 H1 Γr σ1 L1 v s1 r1
        obtain ⟨f1, f2, nd, a, g1, g2, e1, e2, e3⟩ := r1.own
        subst e1
        exact h3 F1 H1 v g1 s1 r1.fit e2 (nd.sublist (List.Sublist.trans (List.sublist_append_left _ _) (List.sublist_append_right _ _)))
      | bk ρ' => exact fun h => h.elim
      | ct ρ' => exact fun h => h.elim
      | ex c d => exact fun h3 F1 H1 s1 f1 => h3 F1 H1 s1 f1
      | stuck => exact fun h => h
/-! ### calls -/
@[reducible] def Md.fits : Md → Md → Bool
  | m, .bo => m.rd
  | .fr, .fr => true
  | .sc, .sc => true
  | _, _ => false
@[reducible] def fitsL : List Md → List Md → Bool
  | [], [] => true
  | m :: ms, p :: ps => Md.fits m p && fitsL ms ps
  | _, _ => false
theorem Rep.args : ∀ {ms pm : List Md} {ds : List DV} {vs : List V} {L : List Ent}, Rep C F H Γ σ ρ (entsA ms ds vs L) → fitsL ms pm = true → ds.length = vs.length → ms.length = vs.length → ArgsAt (C0 C.K C.mg H F) F H pm ds vs ∧ Rep C F H Γ σ ρ L
  | [], [], [], [], L, r, _, _, _ => ⟨trivial, r⟩
  | m :: ms, p :: pm, d :: ds, v :: vs, L, r, q, e1, e2 => by
    obtain ⟨q1, q2⟩ := (Bool.and_eq_true _ _).mp (show (Md.fits m p && fitsL ms pm) = true from q)
    obtain ⟨h1, r1⟩ := Rep.args (ms := ms) (pm := pm) (ds := ds) (vs := vs) r q2 (by simpa using e1) (by simpa using e2)
    refine ⟨⟨?_, h1⟩, r1.tail⟩
    cases p with
    | bo => exact ⟨rfl, r1.da q1⟩
    | fr =>
      cases m with
      | fr => exact ⟨rfl, r1.fr⟩
      | _ => cases q1
    | sc =>
      cases m with
      | sc => obtain ⟨f, h⟩ := r1.head; exact ⟨rfl, h.2⟩
      | _ => cases q1
    | pk m => cases m <;> cases q1
    | own m => cases m <;> cases q1
    | tu m => cases m <;> cases q1
    | ob m => cases m <;> cases q1
    | po m => cases m <;> cases q1
  | [], _ :: _, _, _, _, _, q, _, _ => by cases q
  | _ :: _, [], _, _, _, _, q, _, _ => by cases q
  | [], [], _ :: _, [], _, _, _, e, _ => by cases e
  | [], [], _, _ :: _, _, _, _, _, e => by cases e
  | _ :: _, _ :: _, [], _ :: _, _, _, _, e, _ => by cases e
  | _ :: _, _ :: _, _, [], _, _, _, _, e => by cases e
/-- the callee's frozen part is one of the caller's -/
theorem Fit.lift (e : Fit C F H) (h : Fit (C0 C.K C.mg H F) F' H') : Fit C F' H' := by
  refine ⟨e.ff.trans h.ff, h.fh, e.bh.trans h.bh, fun a ha => ?_, h.tp⟩
  rcases h.f0 a ha with z | z | ⟨o, z1, z2⟩
  · exact e.f0 a z
  · exact .inr (.inl (Same.free e.bh z))
  · exact e.f0 a (by rw [e.tp a o z1 z2]; exact fun z => by cases z)
theorem At.conv {C C' : Cxt} (hK : C'.K = C.K) (hm : C'.mg = C.mg) : ∀ {m : Md} {d : DV} {v : V} {fp : List Addr}, m.fz = true → At C F H m d v fp → (∀ a ∈ fp, C'.Bp a = none) → At C' F H m d v fp := by
  intro m
  induction m with
  | fr => intro d v fp _ h _; unfold At at h ⊢; rw [hK, hm]; exact h
  | bo => intro d v fp q; cases q
  | sc => intro d v fp q; cases q
  | pk m ih | po m ih => intro d v fp q; cases q
  | tu m ih =>
    intro d v fp q h k
    unfold At at h ⊢
    split at h
    · rename_i z
      rw [if_pos z]
      obtain ⟨a, vs, h1, h2, h3⟩ := h
      rw [hK]
      exact ⟨a, vs, h1, h2, h3.imp fun d v f hf x => ih q x fun a ha => k a (hf a ha)⟩
    · rename_i z
      rw [if_neg z, hK, hm]
      exact h
  | own m ih | ob m ih =>
    intro d v fp q h k
    unfold At at h ⊢
    split at h
    · rename_i z
      rw [if_pos z]
      obtain ⟨a, vs, o, fc, h1, h2, h3, h4, h5, h6, h7⟩ := h
      subst h6
      exact ⟨a, vs, o, fc, h1, h2, k a List.mem_cons_self, h4, by rw [hm]; exact h5, rfl, h7.imp fun d v f hf x => ih q x fun a ha => k a (List.mem_cons_of_mem _ (hf a ha))⟩
    · rename_i z
      rw [if_neg z, hK, hm]
      exact h
/-- behind a call -/
theorem Rep.call {fp : List Addr} (r : Rep C F H Γ σ ρ L) (q : m.fz = true) (hf : Fit (C0 C.K C.mg H F) F' H') (h : At (C0 C.K C.mg H F) F' H' m d v fp) (nd : fp.Nodup) : Rep C F' H' Γ σ ρ ((m, d, v) :: L) := by
  have s : Same H H' := hf.bh
  have sf : Same F F' := hf.ff
  have on : ∀ a, Owned C F H a → F' a = none := fun a ⟨h1, h2, o, h3, h4⟩ => by
    cases e : F' a with
    | none => rfl
    | some u =>
      rcases hf.f0 a (by rw [e]; exact fun z => by cases z) with z | z | ⟨o2, z1, z2⟩
      · exact absurd h1 z
      · rw [show H a = none from z] at h3; cases h3
      · rw [show H a = some o2 from z1] at h3
        cases h3
        cases o <;> first | exact h4.elim | cases z2
  have oh : ∀ a, Owned C F H a → H' a = H a := fun a ⟨h1, h2, o, h3, h4⟩ => by rw [h3]; exact s _ _ h3
  have fr : ∀ a ∈ fp, H a = none := fun a ha => (h.owned a ha).2.1
  obtain ⟨f1, f2, nd2, a, b⟩ := r.own
  have oa := a.owned
  have ob := b.owned
  refine ⟨r.fit.lift hf, r.io, f1, fp ++ f2, ?_, a.mono sf (fun x hx => on x (oa x hx)) (fun x hx => oh x (oa x hx)) (.inr s), fp, f2, rfl, h.conv (C := C0 C.K C.mg H F) (C' := C) rfl rfl q (fun x hx => Same.free r.fit.bh (fr x hx)), b.mono sf (fun x hx => on x (ob x hx)) (fun x hx => oh x (ob x hx)) (.inr s)⟩
  have hn : ∀ x ∈ f1 ++ f2, x ∉ fp := fun x hx hy => by
    have z := fr x hy
    rcases List.mem_append.mp hx with w | w
    · obtain ⟨_, _, o, e, _⟩ := oa x w; rw [z] at e; cases e
    · obtain ⟨_, _, o, e, _⟩ := ob x w; rw [z] at e; cases e
  refine List.Perm.nodup (l := fp ++ (f1 ++ f2)) ?_ ?_
  · rw [← List.append_assoc, ← List.append_assoc]
    exact List.Perm.append List.perm_append_comm (List.Perm.refl _)
  · exact List.nodup_append.mpr ⟨nd, nd2, fun x hx y hy e => hn y hy (e ▸ hx)⟩
theorem se_call {XW : XK → Wx} {E : XK} {pm ms : List Md} {f : List DV → Rs DV} {t : TA} {g : GA} (h : SA C W Γ t g ms) (hx : ∀ c d H', W c d H' → XW E c d H') (hf : fitsL ms pm = true := by rfl) (q : mr.fz = true := by rfl) :
    SE C W Γ (tCall (spD C.K C.mg XW pm mr f) [] E t) (gCB f g) mr := by
  intro F H σ ρ L Q hL r k
  show t σ H fun vs H1 => spD C.K C.mg XW pm mr f (vs ++ []) H1 Q E
  refine sa_then h hL r k fun ds F1 H1 vs s1 s2 e1 e2 r1 k1 => ?_
  rw [List.append_nil]
  obtain ⟨a1, r2⟩ := r1.args hf e1 e2
  refine ⟨F1, ds, ⟨Same.refl _, r2.fit.fh, Same.refl _, fun a h => .inl h, r2.fit.tp⟩, a1, ?_⟩
  revert k1
  cases f ds with
  | ok d => exact fun k1 F2 H2 v fp s3 f2 h2 nd => k1 F2 H2 v s3 f2.bh (r2.call q f2 h2 nd)
  | ex c d => exact fun k1 F2 H2 s3 f2 => hx c d H2 (k1 F2 H2 s3 f2.bh (r2.fit.lift f2))
  | stuck => exact fun k1 => k1
/-- the law's end -/
theorem law_end {K : PySem.W.Frag} {mg : Str → Option Value} {f : List DV → Rs DV} {H : Hp} {a : Addr} {ns : List Int} {E : XK} (h : f [.lst (ns.map .int)] = .ok (.bl true)) (hS : SqL K H a (ns.map V.int)) : spD K mg X0 [.sc] .fr f [.ref a] H (fun v _ => v = .bl true) E := by
  refine ⟨H, [.lst (ns.map .int)], ⟨Same.refl _, Same.refl _, Same.refl _, fun a h => .inl h, fun a o h _ => h⟩, ⟨⟨rfl, a, ns, rfl, rfl, hS⟩, trivial⟩, ?_⟩
  rw [h]
  exact fun F' H' v fp _ _ h _ => h.2
end
end DL
end

/-! text DL11 -/
section
set_option maxRecDepth 100000
set_option maxHeartbeats 4000000
/-! the data layer, part 11: stores into what is owned -/
namespace DL
open PySem PySem.Spec PyProof.Rows L2
section
variable {C : Cxt} {W : Wx} {F F' H H' : Hp} {Γ Γb Γ' : List Md} {σ : L2.St} {ρ : EnvD} {L : List Ent} {m ma mb mr me mi : Md} {d : DV} {v : V} {Dn : Ends}
/-! a, b = e1, e2 -/
def gPar (i j : Nat) (g : GA) : GS := fun ρ => match g ρ with
  | .ok [a, b] => .nx ((ρ.set i (some a)).set j (some b))
  | .ex c d => .ex c d
  | _ => .stuck
theorem ss_par {i j : Nat} {t : TA} {g : GA} (h : SA C W Γ t g [ma, mb]) (li : i < Γ.length) (lj : j < Γ.length) (hio : ∀ p ∈ C.io, p.1 ≠ i ∧ p.1 ≠ j) : SS C W mr Γb Γ (tPar i j t) (gPar i j g) ((Γ.set i ma).set j mb) := by
  intro F H σ ρ L Dn hs r k
  show t σ H fun vs H1 => ∃ v w, vs = [v, w] ∧ Dn.nx ((σ.set i (some v)).set j (some w)) H1
  refine h F H σ ρ L _ hs.ok r ?_
  unfold gPar at k
  revert k
  cases g ρ with
  | ex c d => exact fun k F1 H1 s1 s2 f => k F1 H1 s1 f
  | stuck => exact fun k => k
  | ok ds =>
    intro k F1 H1 vs s1 s2 e1 e2 r1
    match vs, ds, e1, e2, r1, k with
    | [x, y], [dx, dy], _, _, r1, k =>
      refine ⟨x, y, rfl, ?_⟩
      have r2 : Rep C F1 H1 Γ σ ρ ((ma, dx, x) :: (mb, dy, y) :: L) := Rep.swap (L := L) r1
      have r3 := r2.put li fun p hp => (hio p hp).1
      have r4 := r3.put (by rw [List.length_set]; exact lj) fun p hp => (hio p hp).2
      exact k F1 H1 _ s1 r4
/-! x += e of ints -/
def gAug (i : Nat) (f : Int → Int → Int) (g : GE) : GS := fun ρ => match lk ρ i with
  | .ok (.int a) => (match g ρ with
    | .ok (.int b) => .nx (ρ.set i (some (.int (f a b))))
    | .ex c d => .ex c d
    | _ => .stuck)
  | _ => .stuck
theorem ss_aug {i : Nat} {f : Int → Int → Int} {t : TE} {g : GE} (h : SE C W Γ t g ma) (hi : Γ[i]? = some m) (hio : ∀ p ∈ C.io, p.1 ≠ i) (q : m.rd = true := by rfl) (qa : ma.rd = true := by rfl) : SS C W mr Γb Γ (tAug i t (ipI f)) (gAug i f g) Γ := by
  intro F H σ ρ L Dn hs r k
  unfold gAug at k
  rcases lk_cases ρ i with ⟨d, e2, e3⟩ | e3
  · rw [e3] at k
    cases d with
    | int a =>
      obtain ⟨x, h1, r0⟩ := r.look hi e2
      have hx : x = .int a := by
        obtain ⟨f, hf⟩ := r0.head
        exact hf.int1
      subst hx
      refine ⟨.int a, h1, ?_⟩
      refine h F H σ ρ L _ hs.ok r ?_
      revert k
      show PS' C W mr Γb Γ F H L Dn (match g ρ with | .ok (.int b) => .nx (ρ.set i (some (.int (f a b)))) | .ex c d => .ex c d | _ => .stuck) → _
      cases g ρ with
      | ex c d => exact fun k F1 H1 s1 s2 f => k F1 H1 s1 f
      | stuck => exact fun k => k
      | ok d =>
        intro k F1 H1 y s1 s2 r1
        have hd := r1.da qa
        cases d with
        | int b =>
          have r2 : Rep C F1 H1 Γ σ ρ ((m, .int (f a b), .int (f a b)) :: L) := r1.tail.cons0 (At.flat q rfl)
          have r3 := r2.put (List.getElem?_eq_some_iff.mp hi).1 hio
          rw [set_id hi] at r3
          exact ⟨a, b, rfl, hd, k F1 H1 _ s1 r3⟩
        | _ => exact k.elim
    | _ => exact k.elim
  · rw [e3] at k
    exact k.elim
/-! xs.append(e) of a name's own list -/
def gApp (i : Nat) (g : GX) : GX := fun ρ => match lk ρ i with
  | .ok (.lst _) => (g ρ).bind fun p => (match lk p.2 i with
    | .ok (.lst ds) => if ds.length < sizeLine then .ok (.non, p.2.set i (some (.lst (ds ++ [p.1])))) else .stuck
    | _ => .stuck)
  | _ => .stuck
theorem sx_app {i : Nat} {t : TE} {g : GX} (hi : Γ[i]? = some (.own m)) (h : SX C W Γ t g m) (hΓ : Γ.all Md.stor = true) (qm : m.stor = true := by rfl) : SX C W Γ (tBM C.K "list" rAppend (tVar i) (tCons t tNil)) (gApp i g) .fr := by
  intro F H σ ρ L Q hs r k
  show ∃ v, σ[i]? = some (some v) ∧ (tyV C.K "list" v H ∧ t σ H fun y H2 => rAppend v [y] H2 Q)
  unfold gApp at k
  rcases lk_cases ρ i with ⟨d, e2, e3⟩ | e3
  · rw [e3] at k
    cases d with
    | lst ds0 =>
      obtain ⟨x, h1, r0⟩ := r.look hi e2
      obtain ⟨f, hf⟩ := r0.head
      have hf : At C F H (.pk m.peek) (.lst ds0) x f := hf
      unfold At at hf
      rw [if_pos (show isLD (.lst ds0) = true from rfl)] at hf
      obtain ⟨a, ws, rfl, hrd, _⟩ := hf
      refine ⟨.ref a, h1, .inl ⟨rfl, ws, .inl hrd⟩, ?_⟩
      refine h F H σ ρ L _ hs r ?_
      revert k
      show PX' C W Γ F H σ L .fr Q ((g ρ).bind fun p => (match lk p.2 i with | .ok (.lst ds) => if ds.length < sizeLine then .ok (.non, p.2.set i (some (.lst (ds ++ [p.1])))) else .stuck | _ => .stuck)) → _
      cases g ρ with
      | ex c d => exact fun k => k
      | stuck => exact fun k => k
      | ok p =>
        obtain ⟨dy, ρ'⟩ := p
        intro k F1 H1 y s1 r1
        have k : PX' C W Γ F H σ L .fr Q (match lk ρ' i with | .ok (.lst ds) => if ds.length < sizeLine then .ok (.non, ρ'.set i (some (.lst (ds ++ [dy])))) else .stuck | _ => .stuck) := k
        rcases lk_cases ρ' i with ⟨d, g2, g3⟩ | g3
        · rw [g3] at k
          cases d with
          | lst ds =>
            have k : PX' C W Γ F H σ L .fr Q (if ds.length < sizeLine then .ok (.non, ρ'.set i (some (.lst (ds ++ [dy])))) else .stuck) := k
            split at k
            · rename_i hz
              obtain ⟨v, h2, r2⟩ := r1.take hi g2
              rw [h1] at h2
              cases h2
              obtain ⟨p, vs, z1, z2, z3, z4, z5, z6⟩ := r2.swap.push hΓ qm
              cases z1
              refine ⟨a, vs, y, rfl, rfl, z2, by rw [← z3]; exact hz, ?_⟩
              have r3 := (z6 (Safe.of hs)).back h1 (.inl hi)
              rw [set_set', set_id hi] at r3
              exact k F1 _ .non s1 (r3.cons0 ⟨rfl, rfl⟩)
            · exact k.elim
          | _ => exact k.elim
        · rw [g3] at k
          exact k.elim
    | _ => exact k.elim
  · rw [e3] at k
    exact k.elim
/-! xs[i] = e of a name's own list -/
theorem Alls.put {R : DV → V → List Addr → Prop} {d : DV} {v : V} {g : List Addr} (h : R d v g) : ∀ {ds : List DV} {vs : List V} {f : List Addr} {j : Nat}, Alls R ds vs f → j < ds.length → ∃ x y z, f = x ++ (y ++ z) ∧ Alls R (ds.set j d) (vs.set j v) (x ++ (g ++ z))
  | [], _, _, j, _, l => by simp at l
  | d1 :: ds, _, _, 0, ⟨w, r, f1, f2, h1, h2, h3, h4⟩, _ => by
    subst h1
    exact ⟨[], f1, f2, h2, v, r, g, f2, rfl, rfl, h, h4⟩
  | d1 :: ds, _, _, j + 1, ⟨w, r, f1, f2, h1, h2, h3, h4⟩, l => by
    subst h1
    obtain ⟨x, y, z, e1, e2⟩ := Alls.put h h4 (j := j) (by simpa using l)
    exact ⟨f1 ++ x, y, z, by rw [h2, e1, List.append_assoc], w, _, f1, x ++ (g ++ z), rfl, by rw [List.append_assoc], h3, e2⟩
theorem Rep.setAt {ds : List DV} {y : V} {j : Nat} (r : Rep C F H Γ σ ρ ((m, d, y) :: (.own m, .lst ds, v) :: L)) (hΓ : Γ.all Md.stor = true) (qm : m.stor = true) (hj : j < ds.length) (hs : storL L) :
    ∃ p vs, v = .ref p ∧ H p = some (.lst vs) ∧ ds.length = vs.length ∧ Rep C F (L2.upd H p (.lst (vs.set j y))) Γ σ ρ ((.own m, .lst (ds.set j d), v) :: L) := by
  obtain ⟨f1, f2, nd, a, g1, g2, h1, h2, g3, g4, h3, h4, h5⟩ := r.own
  unfold At at h4
  rw [if_pos (show isLD (.lst ds) = true from rfl)] at h4
  obtain ⟨p, vs, o, fc, e1, e2, e3, e4, e5, e6, e7⟩ := h4
  obtain rfl : o = .lst vs := e5
  subst e1
  subst e6
  subst h3
  subst h1
  refine ⟨p, vs, rfl, e4, e7.length, ?_⟩
  have np := List.nodup_append.mp nd
  have np2 := List.nodup_append.mp np.2.1
  have np3 := List.nodup_append.mp np2.2.1
  have np4 := List.nodup_cons.mp np3.1
  have n1 : ∀ x ∈ f1, x ≠ p := fun x hx e => np.2.2 x hx p (List.mem_append_right _ (List.mem_append_left _ List.mem_cons_self)) e
  have n2 : ∀ x ∈ g1, x ≠ p := fun x hx e => np2.2.2 x hx p (List.mem_append_left _ List.mem_cons_self) e
  have n3 : ∀ x ∈ fc, x ≠ p := fun x hx e => np4.1 (e ▸ hx)
  have n4 : ∀ x ∈ g4, x ≠ p := fun x hx e => np3.2.2 p List.mem_cons_self x hx e.symm
  have o1 := a.owned
  have o2 := h2.owned
  have o4 := h5.owned
  have nm : ∀ x u, L2.upd H p (.lst (vs.set j y)) x = some u → tupO u = true → H x = some u := fun x u e t => by
    by_cases z : x = p
    · subst z; rw [upd_same] at e; cases e; cases t
    · rw [upd_ne z] at e; exact e
  have lq : ∀ x u, x ≠ p → H x = some u → L2.upd H p (.lst (vs.set j y)) x = some u := fun x u z e => by rw [upd_ne z]; exact e
  have fit : Fit C F (L2.upd H p (.lst (vs.set j y))) := ⟨r.fit.ff, fun x u e => lq x u (fun z => by rw [z, e2] at e; cases e) (r.fit.fh _ _ e), fun x u e => lq x u (fun z => by rw [z, e3] at e; cases e) (r.fit.bh _ _ e), r.fit.f0, fun x u e t => r.fit.tp x u (nm x u e t) t⟩
  have stm : ∀ {m : Md} {d : DV} {v : V} {f : List Addr}, m.stor = true → At C F H m d v f → (∀ x ∈ f, x ≠ p) → At C F (L2.upd H p (.lst (vs.set j y))) m d v f := fun q x k => x.mono (Same.refl _) (fun z hz => (x.owned z hz).1) (fun z hz => upd_ne (k z hz)) (.inl q)
  have e8 : Alls (At C F (L2.upd H p (.lst (vs.set j y))) m) ds vs fc := e7.imp fun d v f hf x => stm qm x fun z hz => n3 z (hf z hz)
  obtain ⟨x, w, z, i1, i2⟩ := Alls.put (stm qm h2 n2) e8 hj
  subst i1
  refine ⟨fit, r.io, f1, (p :: (x ++ (g1 ++ z))) ++ g4, ?_, a.mono (Same.refl _) (fun x hx => (o1 x hx).1) (fun x hx => upd_ne (n1 x hx)) (.inl hΓ), p :: (x ++ (g1 ++ z)), g4, rfl, ?_, h5.safe (Safe.of hs) (fun x hx => (o4 x hx).1) n4⟩
  · have hp : List.Perm (f1 ++ (g1 ++ ((p :: (x ++ (w ++ z))) ++ g4))) (w ++ (f1 ++ ((p :: (x ++ (g1 ++ z))) ++ g4))) := by
      refine List.perm_iff_count.mpr fun b => ?_
      simp only [List.count_append, List.count_cons]
      omega
    exact ((hp.nodup nd)).sublist (List.sublist_append_right _ _)
  · unfold At
    rw [if_pos (show isLD (.lst (ds.set j d)) = true from rfl)]
    exact ⟨p, vs.set j y, _, _, rfl, e2, e3, upd_same, rfl, rfl, i2⟩
theorem ixN_lt {n : Nat} {i : Int} {j : Nat} (h : ixN n i = some j) : j < n := by
  unfold ixN at h
  split at h
  · split at h
    · cases h; omega
    · cases h
  · split at h
    · cases h; omega
    · cases h
def setD (x : DV) (i : DV) (y : DV) : Rs DV := match x, i with
  | .lst ds, .int k => (match ixN ds.length k with
    | some j => .ok (.lst (ds.set j y))
    | none => .stuck)
  | _, _ => .stuck
def gSetI (i : Nat) (gi : GE) (g : GX) : GS := fun ρ => match g ρ with
  | .ok (y, ρ') => (match lk ρ' i with
    | .ok x => (match gi ρ' with
      | .ok k => (match setD x k y with
        | .ok x' => .nx (ρ'.set i (some x'))
        | _ => .stuck)
      | .ex c d => .ex c d
      | .stuck => .stuck)
    | _ => .stuck)
  | .ex c d => .ex c d
  | .stuck => .stuck
theorem ss_seti {i : Nat} {t ti : TE} {g : GX} {gi : GE} (hi : Γ[i]? = some (.own m)) (h : SX C W Γ t g m) (hk : SE C W Γ ti gi mi) (hΓ : Γ.all Md.stor = true) (qm : m.stor = true := by rfl) (qi : mi.rd = true := by rfl) : SS C W mr Γb Γ (tAsg t (gSub (tVar i) ti rSetL)) (gSetI i gi g) Γ := by
  intro F H σ ρ L Dn hs r k
  show t σ H fun x H1 => ∃ v, σ[i]? = some (some v) ∧ ti σ H1 fun z H2 => rSetL v z x H2 fun H3 => Dn.nx σ H3
  refine h F H σ ρ L _ hs r ?_
  unfold gSetI at k
  revert k
  cases g ρ with
  | ex c d => exact fun k => k
  | stuck => exact fun k => k
  | ok p =>
    obtain ⟨dy, ρ'⟩ := p
    intro k F1 H1 y s1 r1
    have k : PS' C W mr Γb Γ F H L Dn (match lk ρ' i with | .ok x => (match gi ρ' with | .ok k => (match setD x k dy with | .ok x' => .nx (ρ'.set i (some x')) | _ => .stuck) | .ex c d => .ex c d | .stuck => .stuck) | _ => .stuck) := k
    rcases lk_cases ρ' i with ⟨dx, g2, g3⟩ | g3
    · rw [g3] at k
      have k : PS' C W mr Γb Γ F H L Dn (match gi ρ' with | .ok k => (match setD dx k dy with | .ok x' => .nx (ρ'.set i (some x')) | _ => .stuck) | .ex c d => .ex c d | .stuck => .stuck) := k
      obtain ⟨v, h2, _⟩ := r1.look hi g2
      refine ⟨v, h2, ?_⟩
      refine hk F1 H1 σ ρ' _ _ (storL_cons qm hs).ok r1 ?_
      revert k
      cases gi ρ' with
      | ex c d => exact fun k F2 H2 s2 s3 f => k F2 H2 (s1.trans s2) f
      | stuck => exact fun k => k
      | ok dk =>
        intro k F2 H2 z s2 s3 r2
        have hz := r2.da qi
        have k : PS' C W mr Γb Γ F H L Dn (match setD dx dk dy with | .ok x' => .nx (ρ'.set i (some x')) | _ => .stuck) := k
        cases dx with
        | lst ds =>
          cases dk with
          | int kk =>
            have k : PS' C W mr Γb Γ F H L Dn (match (match ixN ds.length kk with | some j => (Rs.ok (DV.lst (ds.set j dy)) : Rs DV) | none => .stuck) with | .ok x' => .nx (ρ'.set i (some x')) | _ => .stuck) := k
            cases e : ixN ds.length kk with
            | none => rw [e] at k; exact k.elim
            | some j =>
              rw [e] at k
              have k : PS' C W mr Γb Γ F H L Dn (.nx (ρ'.set i (some (.lst (ds.set j dy))))) := k
              obtain ⟨v2, h3, r3⟩ := r2.tail.take hi g2
              rw [h2] at h3
              cases h3
              obtain ⟨p, vs, z1, z2, z3, r4⟩ := r3.swap.setAt hΓ qm (ixN_lt e) hs
              subst z1
              refine ⟨p, vs, kk, j, rfl, hz, z2, by rw [← z3]; exact e, ?_⟩
              have r5 := r4.back h2 (.inl hi)
              rw [set_set', set_id hi] at r5
              exact k F2 _ σ (s1.trans s2) r5
          | _ => exact k.elim
        | _ => cases dk <;> exact k.elim
    · rw [g3] at k
      exact k.elim
end
end DL
end

/-! text DL12 -/
section
set_option maxRecDepth 100000
set_option maxHeartbeats 4000000
/-! the data layer, part 12: small things that a printed proof names -/
namespace DL
open PySem PySem.Spec PyProof.Rows L2
section
variable {C : Cxt} {W : Wx} {F F' H H' : Hp} {Γ : List Md} {σ : L2.St} {ρ : EnvD} {L : List Ent} {m ma mb mr me mi : Md} {d : DV} {v : V} {Dn : Ends} {st : Bool}
def gYes : GT := fun _ => .ok true
theorem st_yes : ST C W Γ tYes gYes := fun F H σ ρ L Q hL r k => k F H (Same.refl _) (Same.refl _) r
theorem st_tt {t : TE} {g : GE} (h : SE C W Γ t g m) (q : m.rd = true := by rfl) : ST C W Γ (tTest t) (gB g) := st_b h q
theorem nio {i : Nat} : ∀ p ∈ ([] : List (Nat × V × Md)), p.1 ≠ i := fun _ h => nomatch h
theorem nio2 {i j : Nat} : ∀ p ∈ ([] : List (Nat × V × Md)), p.1 ≠ i ∧ p.1 ≠ j := fun _ h => nomatch h
theorem nioL {is : List Nat} : ∀ p ∈ ([] : List (Nat × V × Md)), ∀ i ∈ is, p.1 ≠ i := fun _ h => nomatch h
theorem hx0 : ∀ (c : Str) (d : DV) (H' : Hp), W0 c d H' → X0 E0 c d H' := fun _ _ _ h => h
/-- items that cannot change are frozen by themselves -/
def gImmI (g : GI) : GI := fun ρ => (g ρ).bind fun its => if imms its = true then .ok its else .stuck
theorem imms_get : ∀ {ds : List DV} {i : Nat} {d : DV}, imms ds = true → ds[i]? = some d → imm d = true
  | [], _, _, _, h => by simp at h
  | a :: ds, 0, d, q, h => by
    simp at h
    subst h
    exact ((Bool.and_eq_true _ _).mp q).1
  | a :: ds, i + 1, d, q, h => imms_get (ds := ds) (i := i) ((Bool.and_eq_true _ _).mp q).2 (by simpa using h)
theorem si_imm {wi : TI} {gi : GI} (h : SI C W Γ wi gi m st) (q : m.rd = true := by rfl) : SI C W Γ wi (gImmI gi) .fr st := by
  intro F H σ ρ L R hL r k
  refine h F H σ ρ L R hL r ?_
  unfold gImmI at k
  revert k
  cases gi ρ with
  | ex c d => exact fun k => k
  | stuck => exact fun k => k
  | ok its =>
    show PI' C W Γ F H σ ρ L .fr st R (if imms its = true then .ok its else .stuck) → _
    split
    · rename_i hz
      intro k F1 H1 J E s1 s2 hs hA r1 w
      refine k F1 H1 J E s1 s2 hs hA r1 fun i F2 H2 Γ2 σ2 ρ2 L2 r2 => ?_
      obtain ⟨w1, w2⟩ := w i F2 H2 Γ2 σ2 ρ2 L2 r2
      refine ⟨w1, fun d hd => ⟨(w2 d hd).1, fun x H3 hy => ?_⟩⟩
      obtain ⟨F3, s3, s4, r3⟩ := (w2 d hd).2 x H3 hy
      exact ⟨F3, s3, s4, r3.tail.cons0 ⟨rfl, imm_da r3.fit.tp _ _ (imms_get hz hd) (r3.da q)⟩⟩
    · exact fun k => k.elim
/-- data without a place may be of any mode -/
def gFlat (g : GE) : GE := fun ρ => (g ρ).bind fun d => if (DL.flat d).isSome = true then .ok d else .stuck
theorem se_flat {t : TE} {g : GE} (h : SE C W Γ t g ma) (q : ma.rd = true) (qm : m.rd = true) : SE C W Γ t (gFlat g) m := by
  intro F H σ ρ L Q hL r k
  refine se_then h hL r k fun d F1 H1 x s1 s2 r1 k1 => ?_
  split at k1
  · rename_i hz
    obtain ⟨w, hw⟩ := Option.isSome_iff_exists.mp hz
    have e := da_flat hw (r1.da q)
    subst e
    exact k1.flat r1.tail qm hw
  · exact k1.elim
/-! displays over moved names -/
abbrev GAX := EnvD → Rs (List DV × EnvD)
def PAX' (C : Cxt) (W : Wx) (Γ : List Md) (F H : Hp) (σ : L2.St) (L : List Ent) (ms : List Md) (Q : List V → Hp → Prop) : Rs (List DV × EnvD) → Prop
  | .ok (ds, ρ') => ∀ F' H' vs, Same F F' → ds.length = vs.length → ms.length = vs.length → Rep C F' H' Γ σ ρ' (entsA ms ds vs L) → Q vs H'
  | .ex c d => ∀ F' H', Same F F' → Fit C F' H' → W c d H'
  | .stuck => False
def SXA (C : Cxt) (W : Wx) (Γ : List Md) (t : TA) (g : GAX) (ms : List Md) : Prop :=
  ∀ F H σ ρ L Q, storL L → Rep C F H Γ σ ρ L → PAX' C W Γ F H σ L ms Q (g ρ) → t σ H Q
def xNil : GAX := fun ρ => .ok ([], ρ)
def xCons (ga : GX) (gr : GAX) : GAX := fun ρ => (ga ρ).bind fun p => (gr p.2).bind fun q => .ok (p.1 :: q.1, q.2)
theorem sxa_nil : SXA C W Γ tNil xNil [] := fun F H σ ρ L Q hs r k => k F H [] (Same.refl _) rfl rfl r
theorem sxa_cons {ta : TE} {tr : TA} {ga : GX} {gr : GAX} {ms : List Md} (ha : SX C W Γ ta ga m) (hr : SXA C W Γ tr gr ms) (qo : m.stor = true := by rfl) : SXA C W Γ (tCons ta tr) (xCons ga gr) (m :: ms) := by
  intro F H σ ρ L Q hs r k
  show ta σ H fun x H1 => tr σ H1 fun xs H2 => Q (x :: xs) H2
  refine ha F H σ ρ L _ hs r ?_
  unfold xCons at k
  revert k
  cases ga ρ with
  | ex c d => exact fun k => k
  | stuck => exact fun k => k
  | ok p =>
    obtain ⟨d, ρ1⟩ := p
    intro k F1 H1 x s1 r1
    refine hr F1 H1 σ ρ1 _ _ (storL_cons qo hs) r1 ?_
    revert k
    show PAX' C W Γ F H σ L (m :: ms) Q ((gr ρ1).bind fun q => .ok (d :: q.1, q.2)) → _
    cases gr ρ1 with
    | ex c d => exact fun k F2 H2 s2 f => k F2 H2 (s1.trans s2) f
    | stuck => exact fun k => k
    | ok q =>
      obtain ⟨ds, ρ2⟩ := q
      exact fun k F2 H2 vs s2 e1 e2 r2 => k F2 H2 (x :: vs) (s1.trans s2) (by rw [List.length_cons, List.length_cons, e1]) (by rw [List.length_cons, List.length_cons, e2]) r2
def xTup (g : GAX) : GX := fun ρ => (g ρ).bind fun q => if q.1.length ≤ sizeLine then .ok (.tup q.1, q.2) else .stuck
def xLst (g : GAX) : GX := fun ρ => (g ρ).bind fun q => if q.1.length ≤ sizeLine then .ok (.lst q.1, q.2) else .stuck
theorem sx_tupM {t : TA} {g : GAX} {ms : List Md} (h : SXA C W Γ t g ms) (q : ∀ x ∈ ms, x = m) : SX C W Γ (tTup t) (xTup g) (.tu m) := by
  intro F H σ ρ L Q hs r k
  show t σ H fun xs H1 => xs.length ≤ sizeLine ∧ ∀ p, H1 p = none → Q (.ref p) (L2.upd H1 p (.tup xs))
  refine h F H σ ρ L _ hs r ?_
  unfold xTup at k
  revert k
  cases g ρ with
  | ex c d => exact fun k => k
  | stuck => exact fun k => k
  | ok p =>
    obtain ⟨ds, ρ1⟩ := p
    show PX' C W Γ F H σ L (.tu m) Q (if ds.length ≤ sizeLine then .ok (.tup ds, ρ1) else .stuck) → _
    split
    · rename_i hz
      intro k F1 H1 vs s1 e1 e2 r1
      refine ⟨by rw [← e1]; exact hz, fun p np => ?_⟩
      obtain ⟨sf, r2⟩ := r1.tuple q e2 e1 np
      exact k _ _ _ (s1.trans sf) r2
    · exact fun k => k.elim
theorem sx_tup {t : TA} {g : GAX} {ms : List Md} (h : SXA C W Γ t g ms) (q : ∀ x ∈ ms, x = .fr) : SX C W Γ (tTup t) (xTup g) .fr := sx_fr (sx_tupM h q) rfl
theorem sx_lst {t : TA} {g : GAX} {ms : List Md} (h : SXA C W Γ t g ms) (q : ∀ x ∈ ms, x = m) : SX C W Γ (tLst t) (xLst g) (.own m) := by
  intro F H σ ρ L Q hs r k
  show t σ H fun xs H1 => xs.length ≤ sizeLine ∧ ∀ p, H1 p = none → Q (.ref p) (L2.upd H1 p (.lst xs))
  refine h F H σ ρ L _ hs r ?_
  unfold xLst at k
  revert k
  cases g ρ with
  | ex c d => exact fun k => k
  | stuck => exact fun k => k
  | ok p =>
    obtain ⟨ds, ρ1⟩ := p
    show PX' C W Γ F H σ L (.own m) Q (if ds.length ≤ sizeLine then .ok (.lst ds, ρ1) else .stuck) → _
    split
    · rename_i hz
      intro k F1 H1 vs s1 e1 e2 r1
      refine ⟨by rw [← e1]; exact hz, fun p np => ?_⟩
      exact k F1 _ _ s1 (r1.node q e2 e1 np rfl rfl rfl rfl)
    · exact fun k => k.elim
/-- a list whose items cannot change: its items are frozen by themselves -/
def kidsImm : DV → Bool
  | .lst ds => imms ds
  | .dct _ ds => imms ds
  | d => imm d
def gImmL (g : GE) : GE := fun ρ => (g ρ).bind fun d => if kidsImm d = true then .ok d else .stuck
theorem imms_alls {K : PySem.W.Frag} {mg : Str → Option Value} (tp : ∀ a o, H a = some o → tupO o = true → F a = some o) : ∀ {ds : List DV} {vs : List V}, imms ds = true → DAs K mg H ds vs → DAs K mg F ds vs := fun {ds vs} q h => imms_da tp ds vs q h
theorem se_immL {t : TE} {g : GE} (h : SE C W Γ t g ma) (q : ma.rd = true) : SE C W Γ t (gImmL g) (.pk .fr) := by
  intro F H σ ρ L Q hL r k
  refine se_then h hL r k fun d F1 H1 x s1 s2 r1 k1 => ?_
  split at k1
  · rename_i hz
    have hd := r1.da q
    refine k1.give r1.tail ?_
    cases d with
    | lst ds =>
      obtain ⟨a, vs, e1, e2, e3⟩ := hd
      unfold At
      rw [if_pos (show isLD (.lst ds) = true from rfl)]
      exact ⟨a, vs, e1, e2, Alls.of_das (imms_alls r1.fit.tp hz e3) fun d v x => ⟨rfl, x⟩⟩
    | dct ks ds =>
      obtain ⟨a, vs, e1, e2, e3⟩ := hd
      unfold At
      rw [if_pos (show isLD (.dct ks ds) = true from rfl)]
      exact ⟨a, vs, e1, e2, Alls.of_das (imms_alls r1.fit.tp hz e3) fun d v x => ⟨rfl, x⟩⟩
    | obj c ns ds => cases hz
    | non => exact At.of_fr r1.fit.fh rfl (imm_da r1.fit.tp _ _ hz hd)
    | bl b => exact At.of_fr r1.fit.fh rfl (imm_da r1.fit.tp _ _ hz hd)
    | int i => exact At.of_fr r1.fit.fh rfl (imm_da r1.fit.tp _ _ hz hd)
    | str s => exact At.of_fr r1.fit.fh rfl (imm_da r1.fit.tp _ _ hz hd)
    | tup ds => exact At.of_fr r1.fit.fh rfl (imm_da r1.fit.tp _ _ hz hd)
  · exact k1.elim
end
/-! the rules that speak of the written part, with it named -/
section
variable {X : Cx} {K : PySem.W.Frag}
theorem kx_ix (h : X.K = K) : IxR X (rIxX K) := by subst h; exact ix_X
theorem kx_sl (h : X.K = K) : SlR X (rSlX K) := by subst h; exact sl_X
theorem kx_eq (h : X.K = K) (hu : X.A.units + 64 < cLine) : OpR X (compareOp .Eq) (rEqD K) := by subst h; exact op_eqD hu
theorem kx_ne (h : X.K = K) (hu : X.A.units + 64 < cLine) : OpR X (compareOp .NotEq) (rNeD K) := by subst h; exact op_neD hu
theorem kx_in (h : X.K = K) (hu : X.A.units + 65 < cLine) : OpR X (compareOp .In) (rInX K) := by subst h; exact op_inX hu
theorem kx_notIn (h : X.K = K) (hu : X.A.units + 65 < cLine) : OpR X (compareOp .NotIn) (rNotInX K) := by subst h; exact op_notInX hu
theorem kx_len (h : X.K = K) : CallR X (.builtin "len") (rLenX K) := by subst h; exact call_lenX
theorem kx_list (h : X.K = K) : CallR X (.type "list") (rListOf K) := by subst h; exact call_list_of
theorem kx_sum (h : X.K = K) (hc : X.calm = true) : CallR X (.builtin "sum") (rSum K) := by subst h; exact cr_sum hc
theorem kx_all (h : X.K = K) (hc : X.calm = true) : CallR X (.builtin "all") (rAll K) := by subst h; exact cr_all hc
theorem kx_any (h : X.K = K) (hc : X.calm = true) : CallR X (.builtin "any") (rAny K) := by subst h; exact cr_any hc
theorem kx_max (h : X.K = K) (hc : X.calm = true) : CallR X (.builtin "max") (rMax K) := by subst h; exact cr_max hc
theorem kx_min (h : X.K = K) (hc : X.calm = true) : CallR X (.builtin "min") (rMin K) := by subst h; exact cr_min hc
theorem kx_sorted (h : X.K = K) : CallR X (.builtin "sorted") (rSortedI K) := by subst h; exact cr_sortedI
theorem kx_seq {tg l : Expr} {tl : TE} (h : X.K = K) (hl : PE X l tl) : PI X tg l (iSeq K tl) := by subst h; exact pi_seq hl
theorem kx_tru {a : Expr} {ta : TE} (h : X.K = K) (ha : PE X a ta) (he : ∀ whole, isTrue a X.env whole = (do let v ← whole; standAt a.pos; holding [v] (truthy v))) : PT X a (tTru K ta) := by subst h; exact pt_truth ha he
end
section
variable {C : Cxt} {W : Wx} {Γ : List Md} {m : Md}
theorem si_seqC {t : TE} {g : GE} (h : SE C W Γ t g m) (q : m.ixok = true := by rfl) : SI C W Γ (iSeq C.K t) (gSeqI g) m.kid false := si_seq h q (fun h => by cases h)
theorem si_seqS {t : TE} {g : GE} (h : SE C W Γ t g m) (q : m.ixok = true := by rfl) (hs : m.stor = true := by rfl) : SI C W Γ (iSeq C.K t) (gSeqI g) m.kid true := si_seq h q (fun _ => hs)
end
end DL
namespace L2
open PySem
theorem Room.units65 {k : Nat} {A : Around} (r : Room k A) : A.units + 65 < cLine := by have := r.un; omega
end L2
end

/-! text DLH -/
section
set_option maxRecDepth 100000
set_option maxHeartbeats 4000000
/-! the data layer, the head: facts of the written part by tests of one's own -/
namespace DL
open PySem PySem.Spec PyProof.Rows L2
abbrev Qs := List (PySem.W.Frag → Bool)
def obsX (qs : Qs) (fn : List He.DefD) (K : PySem.W.Frag) : He.AlD := ((qs.all fun q => q K) && fn.all fun d => d.ok K, fn.map fun d => He.fnW K d.at_)
def SaysX (qs : Qs) (fn : List He.DefD) (K : PySem.W.Frag) : Prop := obsX qs fn K = He.valD fn
def obsXG (n : Nat) (qs : Qs) (fn : List He.DefD) (g : Addr → Option Obj) : He.AlD := obsX qs fn (He.frG g (cStatics :: He.asD g n))
def hookX (n : Nat) (qs : Qs) (fn : List He.DefD) : PySem.W.Hook where
  α := He.AlD
  obs := fun s => obsXG n qs fn s.heap.get?
  val := fun _ => He.valD fn
  says := fun _ h => ∃ K : PySem.W.Frag, K.In h ∧ SaysX qs fn K
  of := fun _ _ e => ⟨_, He.frG_in, e⟩
  keeps := fun _ _ _ ⟨K, hK, c⟩ k => ⟨K, PySem.W.Frag.In.keeps hK k, c⟩
theorem obsXG_eq {n : Nat} {qs : Qs} {fn : List He.DefD} {g : Addr → Option Obj} {s : Shared} (h : ∀ a, g a = s.heap.get? a) : obsXG n qs fn g = (hookX n qs fn).obs s := by
  have e : g = s.heap.get? := funext h
  rw [e] <;> rfl
section
variable {qs : Qs} {fn : List He.DefD} {K : PySem.W.Frag}
theorem SaysX.fact (c : SaysX qs fn K) (i : Nat) {q : PySem.W.Frag → Bool} (h : qs[i]? = some q := by rfl) : q K = true := by
  have c1 := ((Bool.and_eq_true _ _).mp (show ((qs.all fun q => q K) && fn.all fun d => d.ok K) = true from congrArg (fun z : He.AlD => z.1) c)).1
  exact List.all_eq_true.mp c1 q (List.mem_of_getElem? h)
theorem SaysX.def_ (c : SaysX qs fn K) (i : Nat) {d : He.DefD} (h : fn[i]? = some d := by rfl) : ∃ fd, FunD K d.name d.qual d.params d.body d.scope (d.dvs K) (d.kws K) (He.fAd K d.at_) fd := by
  have c2 := ((Bool.and_eq_true _ _).mp (show ((qs.all fun q => q K) && fn.all fun d => d.ok K) = true from congrArg (fun z : He.AlD => z.1) c)).2
  have e : fn.map (fun d => He.fnW K d.at_) = fn.map He.DefD.val := congrArg (fun z : He.AlD => z.2) c
  have e2 : (fn.map fun d => He.fnW K d.at_)[i]? = (fn.map He.DefD.val)[i]? := by rw [e]
  rw [List.getElem?_map, List.getElem?_map, h] at e2
  exact He.DefD.funD (Option.some.inj e2) (List.all_eq_true.mp c2 d (List.mem_of_getElem? h))
end
/-- the module's name x is the built-in function of this name -/
def bltB (x : Str) (id : String) (K : PySem.W.Frag) : Bool := match PySem.W.nsIn K mainGlobals x with
  | some (some (.builtin j)) => decide (j = id)
  | _ => false
theorem bltB_ok {K : PySem.W.Frag} {h : Heap} {mg : Str → Option Value} {x : Str} {id : String} (X : K.In h) (G : h.Ns mainGlobals mg) (c : bltB x id K = true) : mg x = some (.builtin id) := by
  unfold bltB at c
  split at c
  · rename_i j e
    have ej : j = id := of_decide_eq_true c
    subst ej
    exact PySem.W.mg_of X G e
  · cases c
end DL
end

/-! text DX0 -/
section
set_option maxRecDepth 100000
set_option maxHeartbeats 4000000
/-! own exceptions, part 0: an __init__ that says super().__init__(at); self.at = at, over ValueError, for the class and its heirs -/
namespace DL
open PySem PySem.Spec PyProof.Rows L2
abbrev exBody (p0 p1 p2 p3 p4 p5 p6 p7 p8 p9 : Pos) : List Stmt :=
  [.Expr (.Call (.Attribute (.Call (.Name "super" p0) [] [] p1) "__init__" p2) [.Name "at" p3] [] p4) p5,
   .Assign [.Attribute (.Name "self" p6) "at" p7] (.Name "at" p8) p9]
abbrev exScope : Scope := { kind := .function, names := [("self", .local), ("at", .local), ("__class__", .free), ("super", .globalImplicit)], isGenerator := false, isCoroutine := false, more := [] }
/-- what such an __init__ keeps -/
def spI (K : PySem.W.Frag) (D : Addr) : Sp := fun vs H Q _ => ∃ (a C : Addr) (v : V), vs = [.ref a, v] ∧ OexC K C ∧ PySem.W.mroIn K C (.ref D) = some true ∧
  PySem.W.subIn K (.ref C) (.type "ValueError") = some true ∧ PySem.W.ks_superIn K C D "__init__" = some (some (.builtin "ValueError.__init__")) ∧ PySem.W.findIn K (.ref C) "at" = some none ∧
  H a = some (exo a C none) ∧ ∀ dx, H dx = none → dx ≠ a → Q .non (upd (upd H dx (exd dx [("at", v)])) a (exo a C (some dx)))
abbrev inEnv (qual : Str) (L f : Addr) (cd : Value) (cc : Addr) : Env := PySem.W.ksEnv qual exScope L f cd cc
def cxI (P : Program) (w : World) (K : PySem.W.Frag) (mg : Str → Option Value) (base : Heap) (qual : Str) (f : Addr) (cd : Value) (cc : Addr) (A : Around) (outer : List Env) (s : Shared) (H : Hp) (E : XK) : Cx where
  prog := P
  w := w
  K := K
  mg := mg
  base := base
  A := A.deeper (inEnv qual s.heap.objs.size f cd cc)
  N := ["self", "at"]
  s_0 := s
  H_0 := H
  env := inEnv qual s.heap.objs.size f cd cc
  outer := outer
  stack := inEnv qual s.heap.objs.size f cd cc :: outer
  ex := []
  calm := true
  fn := fun x => decide (x ≠ "__class__")
  pn := []
  xe := fun e s' => wpAny (model P w) (A.deeper (inEnv qual s.heap.objs.size f cd cc)) (leaving (inEnv qual s.heap.objs.size f cd cc) e) (fun _ s'' => C8.CX0 outer H s E e s'') (fun e' s'' => C8.CX0 outer H s E e' s'') s'
theorem sup_init {P : Program} {w : World} {K : PySem.W.Frag} {mg : Str → Option Value} {base : Heap} {k : Nat} {D fI cc cda : Addr} {qual : Str} {params : Arguments} {ar : Arg} {dV kV doc pm ct oc ccl cl : Value} {an od cdd cld : Option Addr} {osl ccs csl : Array (Option Value)}
    {vs : Array Value} {file : Str} {tf : Tok} {cdD : ClassData} {p0 p1 p2 p3 p4 p5 p6 p7 p8 p9 : Pos}
    (lk : K.lookup fI = some ⟨oc, od, .func (PySem.W.ksFn "__init__" qual params (exBody p0 p1 p2 p3 p4 p5 p6 p7 p8 p9) exScope dV kV doc pm an (.ref cda) ct cc), osl⟩) (hcd : PySem.W.codeIn K (.ref cda) qual = true)
    (lc : K.lookup cda = some ⟨ccl, cdd, .fields vs, ccs⟩) (hvs : vs[2]? = some (.str file tf)) (hfile : ((P.main.file : Str) == file) = true) (lcc : K.lookup cc = some ⟨cl, cld, .cell (some (.ref D)), csl⟩) (hD : PySem.W.clsIn K D = some cdD)
    (hsu : mg "super" = none) (hany : PySem.W.nsIn K cStatics "thirdparty.any" = some none) (htop : (P.main.scope.names.lookup ("super" : Str)).isSome = false) (hpar : (params.posonlyargs ++ params.args).head? = some ar) (har : ar.arg = ("self" : Str))
    (hev : ∀ L : Addr, ∃ pl : Sem Bool, eval (.Call (.Attribute (.Call (.Name "super" p0) [] [] p1) "__init__" p2) [.Name "at" p3] [] p4) (inEnv qual L fI (.ref cda) cc) = (do
        let ov ← attributeBase (.Call (.Name "super" p0) [] [] p1) "__init__" (inEnv qual L fI (.ref cda) cc) (eval (.Call (.Name "super" p0) [] [] p1) (inEnv qual L fI (.ref cda) cc))
        standAt p2.atName
        let (f, first) ← holding [ov] (getMethod ov "__init__" pl)
        callWith p4 f first (backTo p4 (starEach [.Name "at" p3] (inEnv qual L fI (.ref cda) cc))) [])) :
    FnOk P w K mg base C8.CX0 (k + 1) fI (PySem.W.ksFn "__init__" qual params (exBody p0 p1 p2 p3 p4 p5 p6 p7 p8 p9) exScope dV kV doc pm an (.ref cda) ct cc) ["self", "at"] (spI K D) := by
  refine ⟨fun vs H Q E h => ?_, fun A outer s H args us vs Q E hr e0 hb r hsp => ?_⟩
  · obtain ⟨a, C, v, e, _⟩ := h
    rw [e]; rfl
  obtain ⟨a, C, v, e, T, hmro, hsub, hsup, hno, ea, hq⟩ := hsp
  subst e
  cases r with
  | @cons _ u0 _ ur ra rw' =>
  obtain rfl : u0 = Value.ref a := ra
  cases rw' with
  | @cons _ u _ ur2 rv rn =>
  cases rn
  have KX : K.In s.heap := e0.mod.kin.keeps fun b o e => (e0.bs b o e).1
  have lim : s.heap.NoLimit := e0.mod.nolimit.keeps fun b o e => (e0.bs b o e).1
  refine ks_codeAny_call_defAt hr.depth (KX _ _ lk) rfl lim (PySem.W.codeRec_of KX hcd) rfl hb (show ∀ x ∈ exScope.names, x.2 ≠ .cell by decide) (fun y hy => ?_) (fun h₁ hns hk => ?_) rfl rfl rfl
  · rcases List.mem_cons.mp hy with rfl | hy
    · rfl
    · rcases List.mem_cons.mp hy with rfl | hy
      · rfl
      · cases hy
  have I : Inv (cxI P w K mg base qual fI (.ref cda) cc A outer s H E) [] [some (.ref a), some v] H { s with heap := h₁, toks := s.toks + (["self", "at"].zip [Value.ref a, u]).length } := by
    have Kb : K.In base := e0.mod.kin
    have cab : ∀ y c, (inEnv qual s.heap.objs.size fI (.ref cda) cc).cells.lookup y = some c → y = "__class__" ∧ c = cc := fun y c e => by
      have e2 : (match y == ("__class__" : Str) with | true => some cc | false => none) = some c := e
      by_cases q : y = ("__class__" : Str)
      · subst q
        have e3 : some cc = some c := e2
        exact ⟨rfl, (Option.some.inj e3).symm⟩
      · rw [show (y == ("__class__" : Str)) = false from by simpa using q] at e2
        cases e2
    refine ⟨⟨e0.mod, rfl, rfl, rfl, Nat.le_refl _, fun y z c h1 h2 => (cab y c h1).1.trans (cab z c h2).1.symm, fun y hy => ?_, fun y c hn h => absurd (cab y c h).1 (of_decide_eq_true hn), fun _ => hr.hd, Around.frames_deeper e0.frames, .inr ⟨rfl, rfl⟩, fun b z => (nomatch z), e0.bs, e0.bsz, fun b _ _ z => (nomatch z), fun b z => (nomatch z), e0.funs, e0.frf⟩,
      rfl, e0.bare, Un.kept hk, ⟨_, hns, fun i y v' h1 h2 h3 => ?_⟩, fun y c h => ?_, e0.hok.fresh (Nat.le_refl _), fun y c h => ?_, fun p hp => (nomatch hp), e0.hok.kept hk, rfl⟩
    · have hy : exScope.names.lookup y = some .cell ∨ exScope.names.lookup y = some .free := hy
      have hz : y = "__class__" := by
        have hm : ∃ kd, (kd = NameKind.cell ∨ kd = NameKind.free) ∧ (y, kd) ∈ exScope.names := by
          rcases hy with hy | hy
          · exact ⟨_, .inl rfl, PySem.mem_of_lookup hy⟩
          · exact ⟨_, .inr rfl, PySem.mem_of_lookup hy⟩
        obtain ⟨kd, hkd, hm⟩ := hm
        simp only [exScope, List.mem_cons, List.not_mem_nil, Prod.mk.injEq, or_false] at hm
        rcases hm with ⟨_, q⟩ | ⟨_, q⟩ | ⟨q, _⟩ | ⟨_, q⟩
        · subst q; rcases hkd with z | z <;> cases z
        · subst q; rcases hkd with z | z <;> cases z
        · exact q
        · subst q; rcases hkd with z | z <;> cases z
      subst hz
      exact ⟨cc, rfl⟩
    · match i, h1, h2 with
      | 0, h1, h2 =>
        cases h1
        cases h2
        exact ⟨.ref a, rfl, .inl ⟨rfl, rfl⟩⟩
      | 1, h1, h2 =>
        cases h1
        cases h2
        exact ⟨u, rv, .inl ⟨rfl, rfl⟩⟩
      | (n + 2), h1, h2 => cases h1
    · obtain ⟨_, rfl⟩ := cab y c h
      exact ⟨_, ⟨_, hk _ _ (KX _ _ lcc), rfl⟩⟩
    · obtain ⟨_, rfl⟩ := cab y c h
      exact (e0.bs _ _ (Kb _ _ lcc)).2
  have K1 : K.In h₁ := fun b o e => hk _ _ (KX _ _ e)
  show _root_.PySem.wpAt (model P w) (A.deeper (inEnv qual s.heap.objs.size fI (.ref cda) cc)) (.func (exBody p0 p1 p2 p3 p4 p5 p6 p7 p8 p9) (inEnv qual s.heap.objs.size fI (.ref cda) cc)) (execs (exBody p0 p1 p2 p3 p4 p5 p6 p7 p8 p9) (inEnv qual s.heap.objs.size fI (.ref cda) cc)) _ _ _
  obtain ⟨pl, hev⟩ := hev s.heap.objs.size
  refine ks_wpAt_execs_cons (ks_wpAt_Expr_any (ks_wpAt_MethodCall (he := hev) ?_))
  · refine ks_wpAt_super_base rfl rfl rfl rfl (K1 _ _ lk) rfl hpar rfl (K1 _ _ lc) rfl hvs hfile htop ?_
    obtain ⟨mb, hb1, hb2⟩ := I.mod.blt
    refine PySem.W.ks_loadName_global rfl rfl (Calls.loadGlobal_builtin (env := inEnv qual s.heap.objs.size fI (.ref cda) cc) (I.mod.glob.keeps I.bk) hsu (hb1.keeps I.bk) ((hb2 _ (by decide)).trans (by first | boot_by_name | rfl | kernel_rfl)) ⟨rfl, ?_⟩)
    refine wpAny_loadName_free rfl rfl rfl ⟨_, K1 _ _ lcc, rfl⟩ ?_
    rw [har]
    refine wpAny_loadName_local rfl rfl hns (v := .ref a) rfl ?_
    obtain ⟨nm, q, N, bs, bm, sn, sub, ab, col, dd, k0, k1, k2, k3, k5, hC, hbm⟩ := T.cls
    obtain ⟨t1, ho⟩ := exo_at I.hok ea
    have hcl : PySem.W.clsIn K C = some { name := nm, bases := bs, mro := .ref C :: bm, ns := N, qualname := q, hasDict := true, slotNames := sn, subclasses := sub, abstract := ab, collection := col, hasDel := false } := by unfold PySem.W.clsIn; rw [hC] <;> rfl
    obtain ⟨oD, hD1, hD2⟩ : ∃ oD, K.lookup D = some oD ∧ oD.data = .cls cdD := by
      unfold PySem.W.clsIn at hD
      split at hD
      · rename_i c d cd' sl ho
        cases hD
        exact ⟨_, ho, rfl⟩
      · cases hD
    refine ks_wpAny_isType_cls (K1 _ _ hD1) hD2 ⟨rfl, ?_⟩
    refine ks_wpAny_call_super (K1 _ _ hD1) hD2 ho rfl (fun c e => nomatch e) (PySem.W.looks_mroIn K1 hmro) (fun h2 hso k2 => ?_)
    have K2 : K.In h2 := fun b o e => k2 _ _ (K1 _ _ e)
    unfold PySem.W.ks_superIn at hsup
    rw [hcl] at hsup
    have haC : a ≠ C := fun z => by
      rw [z] at ho
      have := K1 _ _ hC
      rw [ho] at this
      cases this
    have hI : PySem.W.InstAt h2 a { cls := .ref C, dict := none, data := .fields #[.ref t1, .none, .none, .none, .bool false, .none] } C none := ⟨k2 _ _ ho, rfl, rfl, trivial⟩
    refine PySem.W.kxs_getMethod PySem.W.kxs_ValueError hso (PySem.W.looks_opaque K2 hany) (l₀ := .ref C :: bm) (fun A Q E s k q => wpAny_bind ((PySem.W.looks_clsIn K2 hcl) A _ E s k (wpAny_pure q))) rfl K2 hsup (hI.type.andThen (PySem.W.looks_subIn K2 hsub)) haC (by decide) ?_
    have J2 : Inv (cxI P w K mg base qual fI (.ref cda) cc A outer s H E) [] [some (.ref a), some v] H ⟨h2, s.gens, s.drawn, s.toks + (["self", "at"].zip [Value.ref a, u]).length, s.os⟩ := I.kept (t' := s.toks + (["self", "at"].zip [Value.ref a, u]).length) k2
    have I2 : Inv (cxI P w K mg base qual fI (.ref cda) cc A outer s H E) [] [some (.ref a), some v] H ⟨h2.push (PySem.W.kxs_mw "ValueError.__init__" a), s.gens, s.drawn, s.toks + (["self", "at"].zip [Value.ref a, u]).length + 1, s.os⟩ :=
      J2.kept (t' := s.toks + (["self", "at"].zip [Value.ref a, u]).length + 1) (fun b o e => Heap.get?_push_of_some _ e)
    have hu : (h2.push (PySem.W.kxs_mw "ValueError.__init__" a)).get? h2.objs.size = some (PySem.W.kxs_mw "ValueError.__init__" a) := Heap.get?_push_at rfl rfl
    have hpin : ∀ p ∈ ([] : List (Addr × Obj)) ++ [(h2.objs.size, PySem.W.kxs_mw "ValueError.__init__" a)], (h2.push (PySem.W.kxs_mw "ValueError.__init__" a)).get? p.1 = some p.2 ∧ H p.1 = none ∧ p.1 ≠ s.heap.objs.size ∧ p.1 ∉ frs outer ∧ ∀ v, p.2.data ≠ .cell v := fun p hp => by
      rcases List.mem_cons.mp (show p ∈ (h2.objs.size, PySem.W.kxs_mw "ValueError.__init__" a) :: [] from hp) with rfl | hp
      · exact ⟨hu, J2.hok.fresh (Nat.le_refl _), Nat.ne_of_gt J2.lt, J2.nofs (Nat.le_refl _), fun v e => by cases e⟩
      · cases hp
    have I3 : Inv (cxI P w K mg base qual fI (.ref cda) cc A outer s H E) [(h2.objs.size, PySem.W.kxs_mw "ValueError.__init__" a)] [some (.ref a), some v] H ⟨h2.push (PySem.W.kxs_mw "ValueError.__init__" a), s.gens, s.drawn, s.toks + (["self", "at"].zip [Value.ref a, u]).length + 1, s.os⟩ :=
      ⟨I2.ok, I2.os, I2.bare, I2.base, I2.loc, I2.cell, I2.free, I2.freeC, hpin, I2.hok, I2.len⟩
    refine PySem.W.kxs_callWith (i := "ValueError.__init__") (x := a) rfl ?_
    have hPA : PA (cxI P w K mg base qual fI (.ref cda) cc A outer s H E) [.Name "at" p3] (tCons (tVar 1) tNil) := pa_cons (pe_var (i := 1) rfl (.inl rfl)) pa_nil
    refine Calls.evalArgs_plain (thn (hPA.run p4 _ _ _ H (fun vs H' => vs = [v] ∧ H = H') I3 ⟨v, rfl, rfl, rfl⟩) fun us s4 z => ?_)
    obtain ⟨vs4, H4, I4, r4, e1, e2⟩ := z
    subst e1 e2
    cases r4 with
    | @cons _ u4 _ ur4 rv4 rn4 =>
    cases rn4
    have hu4 := (I4.pin _ (by exact List.mem_cons_self)).1
    refine ⟨hu4, ?_⟩
    obtain ⟨hh, g, d, tk, os⟩ := s4
    obtain ⟨t4, ho4⟩ := exo_at I4.hok ea
    refine wpAny_call (codeAny_of_tree ?_)
    show wpAny _ _ (callAny (.ref h2.objs.size) ⟨[u4], []⟩) _ _ _
    simp only [callAny]
    refine wpAny_bind (wpAny_load hu4 ?_)
    simp only [PySem.W.kxs_mw, show (Value.type "method-wrapper" == Value.type "method" || Value.type "method-wrapper" == Value.type "builtin_function_or_method" || Value.type "method-wrapper" == Value.type "method-wrapper") = true by decide, if_true]
    refine PySem.W.KFB.if_so (by decide) ?_
    refine wpAny_bind (PySem.W.check_bound_init F.excBase_ValueError.toExcCallFacts (I4.kIn _ _ hC) ho4 rfl ?_)
    refine wpAny_bind (wpAny_pure (wpAny_pure ?_))
    refine ⟨plainId_quiet F.excBase_ValueError.init.plain _, codeAny_builtin F.excBase_ValueError.initEntry ?_⟩
    refine PySem.W.exc_init_tree (cls := .ref C) (t0 := t4) (dv := none) (c2 := .none) (c3 := .none) (b4 := .bool false) ho4 (by rw [sizeLine_eq]; simp) (fun h5 k5 e5 _ => ?_)
    have J := I4.write (t' := tk) (x := a) (e := a) (o := exo a C none) (by rw [ea]; exact True.intro) (.inl rfl) k5 ⟨_, e5⟩ (exo_ok e5)
    have eu : upd H a (exo a C none) = H := by
      funext b
      by_cases hb : b = a
      · rw [hb, upd_same, ea]
      · rw [upd_ne hb]
    rw [eu] at J
    have T' : OexC (cxI P w K mg base qual fI (.ref cda) cc A outer s H E).K C := T
    have hPS : PSs (cxI P w K mg base qual fI (.ref cda) cc A outer s H E) [.Assign [.Attribute (.Name "self" p6) "at" p7] (.Name "at" p8) p9] _ := pss_cons (ps_ost (pe_var (i := 0) rfl (.inl rfl)) (pe_var (i := 1) rfl (.inl rfl))) pss_nil
    refine wpAt_of_wpAny (thn (hPS.run _ _ _ H { nx := fun _ H' => Q .non H', rt := Q } J ?_) fun fl s6 hs => ?_)
    · refine ⟨v, rfl, .ref a, rfl, a, C, rfl, T, hno, .inl ⟨ea, fun dx n ne => hq dx n ne⟩⟩
    · cases fl with
      | next =>
        obtain ⟨σ', H', J6, q6⟩ := hs
        exact ⟨.non, H', J6.os, J6.bare, J6.base, J6.hok, rfl, q6⟩
      | ret u6 =>
        obtain ⟨v6, σ', H', J6, rv6, q6⟩ := hs
        exact ⟨v6, H', J6.os, J6.bare, J6.base, J6.hok, rv6, q6⟩
      | brk =>
        obtain ⟨_, _, _, q6⟩ := hs
        exact False.elim q6
      | cont =>
        obtain ⟨_, _, _, q6⟩ := hs
        exact False.elim q6
end DL
end

/-! text DX1 -/
section
set_option maxRecDepth 100000
set_option maxHeartbeats 4000000
/-! own exceptions, part 1: raise, try, what a handler asks -/
namespace DL
open PySem PySem.Spec PyProof.Rows L2
/-- what is wanted of an exception of one of the classes ecs, at the data -/
def XO (mg : Str → Option Value) (ecs : List Str) (E : XK) : Wx := fun c d H =>
  c ∈ ecs → ∀ (Ca dd : Addr) (v : V), mg c = some (.ref Ca) → flat d = some v → H dd = some (.xd [("at", v)]) → E (.ref Ca) (some dd) H
/-- what the written part says of the own exception class at Ca (its __init__ is D's, at fI) -/
structure ExF (K : PySem.W.Frag) (D fI Ca : Addr) : Prop where
  oc : OexC K Ca
  mro : PySem.W.mroIn K Ca (.ref D) = some true
  sub : PySem.W.subIn K (.ref Ca) (.type "ValueError") = some true
  sup : PySem.W.ks_superIn K Ca D "__init__" = some (some (.builtin "ValueError.__init__"))
  no : PySem.W.findIn K (.ref Ca) "at" = some none
  ini : PySem.W.findIn K (.ref Ca) "__init__" = some (some (.ref fI))
  xf : XfC K Ca
  cla : PySem.W.findIn K (.ref Ca) "__class__" = some (some (.builtin "object.__class__"))
  spe : PySem.W.specialIn K (.builtin "object.__class__") "__get__" = some (some (.builtin "getset_descriptor.__get__"))
  tak : PySem.W.takesIn K (.builtin "object.__class__") = some true
  obj : PySem.W.mroIn K Ca (.type "object") = some true
section
variable {C : Cxt} {W : Wx} {F F' H H' : Hp} {Γ Γb Γ' : List Md} {σ : L2.St} {ρ : EnvD} {L : List Ent} {m mr : Md} {d : DV} {v : V} {Dn : Ends}
def gRaise (c : Str) (ga : GA) : GS := fun ρ => match ga ρ with
  | .ok [d] => if (flat d).isSome = true then .ex c d else .stuck
  | .ex c d => .ex c d
  | _ => .stuck
/-- raise c(e) -/
def tRaiseO (K : PySem.W.Frag) (Ca D : Addr) (ta : TA) (E : XK) : TS := fun _ σ H => tMkO Ca (spI K D) [] ta σ H E
theorem xd_tup {fs : List (Str × V)} : tupO (.xd fs) = false := rfl
theorem Fit.xd {dx : Addr} {fs : List (Str × V)} (e : Fit C F H) (n : H dx = none) : Fit C F (upd H dx (.xd fs)) :=
  e.alloc (same_upd n) fun a o h q => by
    by_cases z : a = dx
    · subst z
      rw [upd_same] at h
      cases h
      cases q
    · rw [upd_ne z] at h
      exact h
theorem ss_raise {c : Str} {Ca D fI : Addr} {ecs : List Str} {E : XK} {ta : TA} {ga : GA} (h : SA C W Γ ta ga [m]) (T : ExF C.K D fI Ca) (hm : C.mg c = some (.ref Ca)) (hc : c ∈ ecs) (hx : ∀ c d H', W c d H' → XO C.mg ecs E c d H') (q : m.rd = true := by rfl) :
    SS C W mr Γb Γ (tRaiseO C.K Ca D ta E) (gRaise c ga) Γ' := by
  intro F H σ ρ L Dn hs r k
  show ta σ H fun vs H1 => vs.length ≤ 1000 ∧ ∀ a, H1 a = none → spI C.K D (.ref a :: (vs ++ [])) (upd H1 a (exo a Ca none)) _ _
  refine h F H σ ρ L _ hs.ok r ?_
  unfold gRaise at k
  revert k
  cases ga ρ with
  | ex c d => exact fun k F1 H1 s1 s2 f1 => k F1 H1 s1 f1
  | stuck => exact fun k => k.elim
  | ok ds =>
    intro k F1 H1 vs s1 s2 e1 e2 r1
    cases vs with
    | nil => cases e2
    | cons x vs =>
      cases vs with
      | cons y vs => simp at e2
      | nil =>
        cases ds with
        | nil => cases e1
        | cons d ds =>
          cases ds with
          | cons d2 ds => simp at e1
          | nil =>
            have k : PS' C W mr Γb Γ' F H L Dn (if (DL.flat d).isSome = true then .ex c d else .stuck) := k
            split at k
            · rename_i hz
              obtain ⟨w, hw⟩ := Option.isSome_iff_exists.mp hz
              have r2 : Rep C F1 H1 Γ σ ρ ((m, d, x) :: L) := r1
              have ex := da_flat hw (r2.da q)
              subst ex
              refine ⟨by simp, fun a na => ⟨a, Ca, x, rfl, T.oc, T.mro, T.sub, T.sup, T.no, upd_same, fun dx ndx nea => ⟨rfl, dx, [("at", x)], upd_same, ?_, ?_, ?_⟩⟩⟩
              · rw [upd_ne nea, upd_same]
              · rw [upd_ne nea] at ndx
                exact ndx
              · rw [upd_ne nea] at ndx
                have eH : upd (L2.del (upd (upd (upd H1 a (exo a Ca none)) dx (exd dx [("at", x)])) a (exo a Ca (some dx))) a) dx (.xd [("at", x)]) = upd H1 dx (.xd [("at", x)]) := by
                  funext b
                  by_cases hb : b = dx
                  · rw [hb, upd_same, upd_same]
                  · rw [upd_ne hb, upd_ne hb]
                    by_cases ha : b = a
                    · rw [ha, del_same, na]
                    · rw [del_ne ha, upd_ne ha, upd_ne hb, upd_ne ha]
                rw [eH]
                exact hx _ _ _ (k F1 _ s1 (r2.fit.xd ndx)) hc Ca dx x hm hw upd_same
            · exact k.elim
/-! ### what a handler asks -/
/-- isinstance(error, X): error is what the handler holds, at a, of the class cls, its dict d -/
def rIsX (D fI : Addr) (K : PySem.W.Frag) (a : Addr) (cls : Value) (d : Option Addr) : List V → Hp → VK → Prop := fun xs H Q => ∃ (Ca dd : Addr) (c : V) (cv : Value) (b : Bool) (fs : List (Str × V)), cls = .ref Ca ∧ d = some dd ∧ ExF K D fI Ca ∧ xs = [.ref a, c] ∧ (∀ u, RelV c u → u = cv) ∧
  PySem.W.kitOne K (.ref Ca) cv = some b ∧ H dd = some (.xd fs) ∧ Q (.bl b) H
theorem ex_inst {X : Cx} {pins : List (Addr × Obj)} {σ : L2.St} {H : Hp} {s : Shared} {a Ca dd : Addr} {oe : Obj} {fs : List (Str × V)} (hok : HOk X.prog X.w H s.heap) (hg : s.heap.get? a = some oe) (hz : Zc (.ref Ca) (some dd) oe) (hf : ∃ vs, oe.data = .fields vs) (hd : H dd = some (.xd fs)) :
    ∃ (od : Obj) (mA : Str → Option Value), PySem.W.InstAt s.heap a oe Ca (some od) ∧ (∀ f, RelO (fs.lookup f) (mA f)) ∧ ∀ f, PySem.W.lookIn f od = some (mA f) := by
  obtain ⟨vs, hv⟩ := hf
  obtain ⟨mA, hns, hr⟩ : ObjOk X.prog X.w H s.heap dd (.xd fs) := hok dd _ hd
  obtain ⟨od, ho, hl⟩ := lookIn_ns hns
  have nc : PySem.W.notCls oe = true := by
    unfold PySem.W.notCls
    rw [hv] <;> rfl
  exact ⟨od, mA, ⟨hg, hz.1, nc, by rw [hz.2]; exact ho⟩, hr, hl⟩
theorem call_isX {X : Cx} {a D fI : Addr} {cls : Value} {d : Option Addr} {oe : Obj} {pn : List (Addr × Obj)} (hz : Zc cls d oe) (hf : ∃ vs, oe.data = .fields vs) : CallR (X.suite a ((a, oe) :: pn)) (.builtin "isinstance") (rIsX D fI X.K a cls d) := by
  intro pins s σ H xs us Q I r h
  obtain ⟨Ca, dd, c, cv, b, fs, e1, e2, T, e, hcv, hk, hd, q⟩ := h
  subst e1 e2 e
  cases r with
  | @cons _ ua _ ur ra rr =>
  cases rr with
  | @cons _ uc _ ur2 rc rn =>
  cases rn
  obtain rfl : ua = Value.ref a := ra
  obtain rfl := hcv _ rc
  have hg := (I.pin (a, oe) (List.mem_append_left _ List.mem_cons_self)).1
  obtain ⟨od, mA, J, _, _⟩ := ex_inst (X := X) (pins := pins) (σ := σ) I.hok hg hz hf hd
  have hcl : (PySem.W.clsIn X.K Ca).isSome = true := by
    obtain ⟨cd, e, _⟩ := PySem.W.any_some T.xf.hdC
    rw [e] <;> rfl
  exact PySem.W.kia_one (PySem.W.kitx_exc hcl T.xf.ga T.xf.gg T.xf.exC T.cla T.spe T.tak T.obj) I.kIn J hk (fun z => nomatch z) fun tk => ⟨.bl b, H, I.kept (t' := tk) fun _ _ z => z, rfl, q⟩
/-- the exception's dict stays -/
def KeepsX (C : Cxt) (dd : Addr) (v : V) : Prop := ∀ F H, Fit C F H → H dd = some (.xd [("at", v)])
def gIsX (b : Bool) : GE := fun _ => .ok (.bl b)
theorem se_isX {i : Nat} {a Ca dd D fI Xa : Addr} {b : Bool} {v : V} (T : ExF C.K D fI Ca) (hio : (i, V.ref a, Md.fr) ∈ C.io) (hF : KeepsX C dd v) (hk : PySem.W.kitOne C.K (.ref Ca) (.ref Xa) = some b) (q : m.rd = true := by rfl) :
    SE C W Γ (tCB (rIsX D fI C.K a (.ref Ca) (some dd)) (tCons (tVar i) (tCons (tC (.ref Xa)) tNil))) (gIsX b) m := by
  intro F H σ ρ L Q hL r k
  have h1 := (r.io _ hio).1
  refine ⟨.ref a, h1, ⟨Ca, dd, .ref Xa, .ref Xa, b, [("at", v)], rfl, rfl, T, rfl, fun u e => e, hk, hF _ _ r.fit, ?_⟩⟩
  exact k.flat r q rfl
/-- error.at -/
def tAtX (D fI : Addr) (K : PySem.W.Frag) (a : Addr) (cls : Value) (d : Option Addr) (te : TE) : TE := fun σ H Q => te σ H fun x H1 => ∃ (Ca dd : Addr) (fs : List (Str × V)) (v : V), x = .ref a ∧ cls = .ref Ca ∧ d = some dd ∧ ExF K D fI Ca ∧ H1 dd = some (.xd fs) ∧ fs.lookup ("at" : Str) = some v ∧ Q v H1
theorem pe_atX {X : Cx} {a D fI : Addr} {oe : Obj} {cls : Value} {d : Option Addr} {pn : List (Addr × Obj)} {e : Expr} {te : TE} {pos : Pos} (hz : Zc cls d oe) (hf : ∃ vs, oe.data = .fields vs) (he : PE (X.suite a ((a, oe) :: pn)) e te) (hb : attributeBase e "at" X.env (eval e X.env) = eval e X.env := by rfl) :
    PE (X.suite a ((a, oe) :: pn)) (.Attribute e "at" pos) (tAtX D fI X.K a cls d te) := by
  refine ⟨fun pins s σ H Q I h => attr_of hb (thn (he.run pins s σ H _ I h) fun u s1 z => ?_)⟩
  obtain ⟨x, H1, I1, rx, Ca, dd, fs, v, ex, e1, e2, T, hd, hl, q⟩ := z
  subst ex e1 e2
  obtain rfl : u = Value.ref a := rx
  have hg := (I1.pin (a, oe) (List.mem_append_left _ List.mem_cons_self)).1
  obtain ⟨od, mA, J, hr, hlk⟩ := ex_inst (X := X) (pins := pins) (σ := σ) I1.hok hg hz hf hd
  obtain ⟨u, hu, ru⟩ := RelO.some_of (v := v) (o := mA "at") (hl ▸ hr "at")
  exact HandSPX.exc_get I1.kIn J T.xf.ga T.xf.gg T.xf.exC (PySem.W.findObj_own T.xf.hdC T.no rfl (by rw [hlk, hu])) (handed_of ru) ⟨v, H1, I1.tok _, ru, q⟩
def gAt (d : DV) : GE := fun _ => .ok d
theorem se_at {i : Nat} {a Ca dd D fI : Addr} {v : V} (T : ExF C.K D fI Ca) (hio : (i, V.ref a, Md.fr) ∈ C.io) (hF : KeepsX C dd v) (hd : flat d = some v) (q : m.rd = true := by rfl) :
    SE C W Γ (tAtX D fI C.K a (.ref Ca) (some dd) (tVar i)) (gAt d) m := by
  intro F H σ ρ L Q hL r k
  have h1 := (r.io _ hio).1
  refine ⟨.ref a, h1, Ca, dd, [("at", v)], v, rfl, rfl, rfl, T, hF _ _ r.fit, by simp [List.lookup], ?_⟩
  exact k.flat r q hd
/-! ### try -/
theorem Takes.len {X : Cx} {W : WX} (t : Takes X W) : Takes X (fun c d σ H => σ.length = X.N.length → W c d σ H) := fun u s' ⟨a, B, sI, pins, σ, H, cls, d, e, I, nb, up, sky, na, os, ag, w⟩ =>
  t u s' ⟨a, B, sI, pins, σ, H, cls, d, e, I, nb, up, sky, na, os, ag, w I.len⟩
/-- the wish in a try's body, for any values of the names -/
abbrev anyS (n : Nat) (W : WX) : XK := fun cls d H => ∀ σ : L2.St, σ.length = n → W cls d σ H
theorem pass_try {X : Cx} {W : WX} {n : Nat} (t : Takes X W) (h : X.N.length = n) : Passes (L2.CX X.prog X.w) X (anyS n W) :=
  passes_call (W := fun c d σ H => σ.length = X.N.length → W c d σ H) (Takes.len t) fun cls d σ H k l => k σ (l.trans h)
def gTry (n : Nat) (gb : GS) (gh : Str → DV → GS) : GS := fun ρ => match gb ρ with
  | .ex c d => if (flat d).isSome = true then (match gh c d (List.replicate n none) with
    | .rt e ρ' => .rt e ρ'
    | _ => .stuck) else .stuck
  | o => o
def tTryX (K : PySem.W.Frag) (cw : Value) (n i : Nat) (tb : XK → TS) (ts : Addr → Value → Option Addr → TS) (Wout : WX) : TS := fun D σ H => tb (anyS n (wAs K cw i ts Wout D)) D σ H
theorem slots_any : ∀ (Γ : List Md) (σ : L2.St), σ.length = Γ.length → Slots C F H Γ σ (List.replicate Γ.length none) []
  | [], [], _ => rfl
  | m :: Γ, s :: σ, h => ⟨[], [], rfl, rfl, slots_any Γ σ (by simpa using h)⟩
  | [], _ :: _, h => by cases h
  | _ :: _, [], h => by cases h
theorem At.same {C C' : Cxt} (hK : C'.K = C.K) (hm : C'.mg = C.mg) (hB : C'.Bp = C.Bp) : ∀ {m : Md} {d : DV} {v : V} {fp : List Addr}, At C F H m d v fp → At C' F H m d v fp := by
  intro m
  induction m with
  | fr | bo | sc =>
    intro d v fp h
    unfold At at h ⊢
    first
      | (rw [hK, hm, hB]; exact h)
      | (rw [hK, hm]; exact h)
      | (rw [hK]; exact h)
  | pk m ih | po m ih | tu m ih =>
    intro d v fp h
    unfold At at h ⊢
    split at h
    · rename_i z
      rw [if_pos z]
      obtain ⟨a, vs, h1, h2, h3⟩ := h
      exact ⟨a, vs, h1, by first | (rw [hK, hm]; exact h2) | (rw [hK]; exact h2), h3.imp fun _ _ _ _ x => ih x⟩
    · rename_i z
      rw [if_neg z, hK, hm]
      exact h
  | own m ih | ob m ih =>
    intro d v fp h
    unfold At at h ⊢
    split at h
    · rename_i z
      rw [if_pos z]
      obtain ⟨a, vs, o, fc, h1, h2, h3, h4, h5, h6, h7⟩ := h
      exact ⟨a, vs, o, fc, h1, h2, by rw [hB]; exact h3, h4, by rw [hm]; exact h5, h6, h7.imp fun _ _ _ _ x => ih x⟩
    · rename_i z
      rw [if_neg z, hK, hm]
      exact h
theorem Slots.same {C C' : Cxt} (hK : C'.K = C.K) (hm : C'.mg = C.mg) (hB : C'.Bp = C.Bp) : ∀ {Γ : List Md} {σ : L2.St} {ρ : EnvD} {fp : List Addr}, Slots C F H Γ σ ρ fp → Slots C' F H Γ σ ρ fp
  | [], [], [], _, h => h
  | m :: Γ, s :: σ, r :: ρ, _, ⟨f1, f2, e, h1, h2⟩ => ⟨f1, f2, e, by
      cases r with
      | none => exact h1
      | some d =>
        obtain ⟨v, e1, e2⟩ := h1
        exact ⟨v, e1, At.same hK hm hB e2⟩, Slots.same hK hm hB h2⟩
  | [], [], _ :: _, _, h => h.elim
  | [], _ :: _, _, _, h => h.elim
  | _ :: _, [], _, _, h => h.elim
  | _ :: _, _ :: _, [], _, h => h.elim
theorem Exs.same {C C' : Cxt} (hK : C'.K = C.K) (hm : C'.mg = C.mg) (hB : C'.Bp = C.Bp) : ∀ {L : List Ent} {fp : List Addr}, Exs C F H L fp → Exs C' F H L fp
  | [], _, h => h
  | (_, _, _) :: _, _, ⟨f1, f2, e, h1, h2⟩ => ⟨f1, f2, e, At.same hK hm hB h1, Exs.same hK hm hB h2⟩
theorem ss_try {cw : Value} {n i : Nat} {ecs : List Str} {tb : XK → TS} {ts : Addr → Value → Option Addr → TS} {Wout : WX} {gb : GS} {gh : Str → DV → GS} {Γh : List Md} (hb : ∀ E, SS C (XO C.mg ecs E) mr Γb Γ (tb E) gb Γ')
    (hcl : ∀ c ∈ ecs, ∀ Ca, C.mg c = some (.ref Ca) → PySem.W.exmOne C.K (.ref Ca) cw = some true)
    (hh : ∀ (F0 : Hp) (c : Str) (d : DV) (v : V) (a Ca dd : Addr), c ∈ ecs → C.mg c = some (.ref Ca) → flat d = some v → KeepsX ⟨C.K, C.mg, C.Bp, F0, [(i, .ref a, .fr)]⟩ dd v → ∃ Γ2, SS ⟨C.K, C.mg, C.Bp, F0, [(i, .ref a, .fr)]⟩ W0 mr [] Γh (ts a (.ref Ca) (some dd)) (gh c d) Γ2)
    (hn : Γh.length = n) (hi : Γh[i]? = some .fr) (hio : C.io = []) : SS C W mr Γb Γ (tTryX C.K cw n i tb ts Wout) (gTry n gb gh) Γ' := by
  intro F H σ ρ L Dn hs r k
  refine hb (anyS n (wAs C.K cw i ts Wout Dn)) F H σ ρ L Dn hs r ?_
  unfold gTry at k
  revert k
  cases eb : gb ρ with
  | nx ρ' => exact fun k => k
  | rt d ρ' => exact fun k => k
  | bk ρ' => exact fun k => k
  | ct ρ' => exact fun k => k
  | stuck => exact fun k => k
  | ex c d =>
    intro k F1 H1 s1 f1 hc Ca dd v hm hv hd σ1 l1
    have k : PS' C W mr Γb Γ' F H L Dn (if (flat d).isSome = true then (match gh c d (List.replicate n none) with
      | .rt e ρ' => .rt e ρ'
      | _ => .stuck) else .stuck) := k
    rw [if_pos (by rw [hv]; rfl)] at k
    refine ⟨true, hcl c hc Ca hm, fun _ a na => ?_, fun z => nomatch z⟩
    have lΓ : σ.length = Γ.length := by
      obtain ⟨f1, f2, _, hS, _⟩ := r.own
      exact hS.len.1
    have sl : σ1.length = n := l1
    have key : ∃ F2, Same F1 F2 ∧ Same F2 H1 ∧ (∀ a, F2 a ≠ none → C.F0 a ≠ none ∨ C.Bp a = none ∨ ∃ o, C.Bp a = some o ∧ tupO o = true) ∧ (F2 dd = some (.xd [("at", v)]) ∨ C.Bp dd = some (.xd [("at", v)])) := by
      cases e : C.Bp dd with
      | some o =>
        have z := f1.bh _ _ e
        rw [hd] at z
        cases z
        exact ⟨F1, Same.refl _, f1.fh, f1.f0, .inr rfl⟩
      | none =>
        refine ⟨upd F1 dd (.xd [("at", v)]), fun b o h => ?_, fun b o h => ?_, fun b h => ?_, .inl upd_same⟩
        · by_cases hb : b = dd
          · subst hb
            have z := f1.fh _ _ h
            rw [hd] at z
            cases z
            exact upd_same
          · rw [upd_ne hb]
            exact h
        · by_cases hb : b = dd
          · subst hb
            rw [upd_same] at h
            cases h
            exact hd
          · rw [upd_ne hb] at h
            exact f1.fh _ _ h
        · by_cases hb : b = dd
          · subst hb
            exact .inr (.inl e)
          · rw [upd_ne hb] at h
            exact f1.f0 _ h
    obtain ⟨F2, s2, s3, f0, hk⟩ := key
    have hK : KeepsX ⟨C.K, C.mg, C.Bp, F2, [(i, .ref a, .fr)]⟩ dd v := fun F3 H3 f3 => by
      rcases hk with z | z
      · exact f3.fh _ _ (f3.ff _ _ z)
      · exact f3.bh _ _ z
    obtain ⟨Γ2, hss⟩ := hh F2 c d v a Ca dd hc hm hv hK
    have back : ∀ {F3 H3 : Hp}, Fit ⟨C.K, C.mg, C.Bp, F2, [(i, .ref a, .fr)]⟩ F3 H3 → Fit C F3 H3 := fun {F3 H3} f3 => by
      refine ⟨(f1.ff.trans s2).trans f3.ff, f3.fh, f3.bh, fun b h => ?_, f3.tp⟩
      rcases f3.f0 b h with z | z
      · exact f0 b z
      · exact .inr z
    have hil : i < σ1.length := by
      rw [sl, ← hn]
      exact (List.getElem?_eq_some_iff.mp hi).1
    have rep : Rep ⟨C.K, C.mg, C.Bp, F2, [(i, .ref a, .fr)]⟩ F2 H1 Γh (σ1.set i (some (.ref a))) (List.replicate n none) [] := by
      refine ⟨⟨Same.refl _, s3, f1.bh, fun b h => .inl h, fun b o h q => s2 _ _ (f1.tp b o h q)⟩, fun p hp => ?_, [], [], List.nodup_nil, ?_, rfl⟩
      · rcases List.mem_cons.mp hp with rfl | hp
        · exact ⟨List.getElem?_set_self hil, hi⟩
        · cases hp
      · rw [← hn]
        exact slots_any Γh _ (by rw [List.length_set, sl, hn])
    refine hss F2 H1 _ _ [] _ rfl rep ?_
    revert k
    cases gh c d (List.replicate n none) with
    | rt e ρ' =>
      intro k F3 H3 Γr σ3 L3 v3 s4 r3
      have r4 : Rep C F3 H3 Γr σ3 ρ' ((mr, e, v3) :: L3) := by
        obtain ⟨g1, g2, nd, hS, hE⟩ := r3.own
        refine ⟨back r3.fit, fun p hp => ?_, g1, g2, nd, Slots.same (C := ⟨C.K, C.mg, C.Bp, F2, [(i, .ref a, .fr)]⟩) (C' := C) rfl rfl rfl hS, Exs.same (C := ⟨C.K, C.mg, C.Bp, F2, [(i, .ref a, .fr)]⟩) (C' := C) rfl rfl rfl hE⟩
        rw [hio] at hp
        cases hp
      exact k F3 H3 Γr σ3 L3 v3 ((s1.trans s2).trans s4) r4
    | _ => exact fun k => k.elim
end
end DL
end

/-! text DX2 -/
section
set_option maxRecDepth 100000
set_option maxHeartbeats 4000000
/-! own exceptions, part 2: defs that let them out -/
namespace DL
open PySem PySem.Spec PyProof.Rows L2
section
/-- THE RULE of a def, whatever it lets out -/
theorem fnDX {P : Program} {w : World} {CX : CXT} {XW : XK → Wx} {K : PySem.W.Frag} {mg : Str → Option Value} {base : Heap} {k : Nat} {x qual : Str} {st : Stmt} {f : Addr} {fd : FuncData} {N ps : List Str} {pm Γl : List Md} {mr : Md} {g : GS}
    (Fn : FunD K x qual (defArgs st) (defBody st) (defScope st) [] [] f fd) (S : FnScope N ps (defScope st)) (hp : pm.length = ps.length) (hN : pm.length + Γl.length = N.length) (qr : mr.rd = true)
    (hb : ∀ (cdv : Value) (A : Around) (outer : List PySem.Env) (s : Shared) (H : Hp) (E : XK), Room k (A.deeper (envOfC qual (defScope st) s.heap.objs.size f cdv)) →
      ∃ t, PSs (cxOf CX P w K mg base N qual (defScope st) f cdv A outer s H E) (defBody st) t ∧ ∀ (Bp F0 : Hp), ∃ Γ', SS ⟨K, mg, Bp, F0, []⟩ (XW E) mr [] (pm ++ Γl) t g Γ') :
    FnOk P w K mg base CX (k + 1) f fd ps (spD K mg XW pm mr (runB g N.length)) := by
  refine Fn.ok S (fun vs H Q E h => ?_) fun cdv A outer s H vs Q E hr h => ?_
  · obtain ⟨F, ds, _, h2, _⟩ := h
    rw [h2.len.2, hp]
  · obtain ⟨F, ds, h1, h2, h3⟩ := h
    obtain ⟨t, ht, hs⟩ := hb cdv A outer s H E hr
    obtain ⟨l1, l2⟩ := h2.len
    obtain ⟨Γ', hs⟩ := hs H F
    refine ⟨t, ht, hs F H (start N vs) (startD N.length ds) [] _ rfl ?_ ?_⟩
    · refine ⟨h1, fun p hp => (by cases hp), [], [], List.nodup_nil, ?_, rfl⟩
      unfold L2.start startD
      rw [l1, l2, show N.length - pm.length = Γl.length by omega]
      exact slots_start Γl h2
    · unfold runB at h3
      revert h3
      cases g (startD N.length ds) with
      | nx ρ' => exact fun h3 F1 H1 σ1 s1 r1 => h3 F1 H1 .non [] s1 r1.fit (At.flat qr rfl) List.nodup_nil
      | rt d ρ' =>
        intro h3 F1 H1 Γr σ1 L1 v s1 r1
        obtain ⟨f1, f2, nd, a, g1, g2, e1, e2, e3⟩ := r1.own
        subst e1
        exact h3 F1 H1 v g1 s1 r1.fit e2 (nd.sublist (List.Sublist.trans (List.sublist_append_left _ _) (List.sublist_append_right _ _)))
      | bk ρ' => exact fun h => h.elim
      | ct ρ' => exact fun h => h.elim
      | ex c d => exact fun h3 F1 H1 s1 f1 => h3 F1 H1 s1 f1
      | stuck => exact fun h => h
theorem law_endX {XW : XK → Wx} {K : PySem.W.Frag} {mg : Str → Option Value} {f : List DV → Rs DV} {H : Hp} {a : Addr} {ns : List Int} {E : XK} (h : f [.lst (ns.map .int)] = .ok (.bl true)) (hS : SqL K H a (ns.map V.int)) : spD K mg XW [.sc] .fr f [.ref a] H (fun v _ => v = .bl true) E := by
  refine ⟨H, [.lst (ns.map .int)], ⟨Same.refl _, Same.refl _, Same.refl _, fun a h => .inl h, fun a o h _ => h⟩, ⟨⟨rfl, a, ns, rfl, rfl, hS⟩, trivial⟩, ?_⟩
  rw [h]
  exact fun F' H' v fp _ _ h _ => h.2
/-- what the text says of the root of the own exceptions: its class at D, its __init__ at fI -/
structure XIn (P : Program) (K : PySem.W.Frag) (mg : Str → Option Value) where
  D : Addr
  fI : Addr
  fd : FuncData
  ok : ∀ (w : World) (base : Heap) (k : Nat), FnOk P w K mg base C8.CX0 (k + 1) fI fd ["self", "at"] (spI K D)
  b : Binds K fd ["self", "at"] []
  t : PySem.W.typeIn K (.ref fI) = some (.type "function")
theorem kx_raise {X : Cx} {P : Program} {K : PySem.W.Frag} {mg : Str → Option Value} {j : Nat} {x : Str} {Ca : Addr} {p pos pos2 : Pos} {e : Expr} {es : List Expr} {ta : TA} {E : XK} (hK : X.K = K) (hP : X.prog = P) (hG : X.mg = mg) (I : XIn P K mg) (T : ExF K I.D I.fI Ca) (hr : Room j X.A) (h2 : 2 ≤ j)
    (hm : mg x = some (.ref Ca)) (hg : Gl X x) (hc : X.calm = true) (tk : Takes X (fun cls d _ H => E cls d H)) (ha : PA X (e :: es) ta) (hdb : (x == ("__debug__" : Str)) = false := by decide)
    (he : starEach (e :: es) X.env = (false, eval e X.env) :: starEach es X.env := by rfl) (hpl : (backTo pos (starEach es X.env)).any (·.1) = false := by rfl) :
    PS X (.Raise (some (.Call (.Name x p) (e :: es) [] pos)) none pos2) (tRaiseO K Ca I.D ta E) := by
  subst hK hP hG
  exact ps_raise (W := fun cls d _ H => E cls d H) hc tk (pmk_oex (k := 1) T.oc T.ini I.t (I.ok X.w X.base 0) (hr.mono h2) I.b .nil (fun _ _ _ _ _ _ _ h => h.elim) hg hm ha hdb he hpl)
/-- what a def of this context lets out -/
theorem px0 {P : Program} {w : World} {K : PySem.W.Frag} {mg : Str → Option Value} {base : Heap} {N : List Str} {qual : Str} {sc : Scope} {f : Addr} {cdv : Value} {A : Around} {outer : List PySem.Env} {s : Shared} {H : Hp} {E : XK} :
    Passes (L2.CX P w) (cxOf (L2.CX P w) P w K mg base N qual sc f cdv A outer s H E) E := passes_call (W := fun cls d _ H => E cls d H) (takes_of rfl rfl rfl rfl) fun _ _ _ _ h => h
theorem tk0 {P : Program} {w : World} {K : PySem.W.Frag} {mg : Str → Option Value} {base : Heap} {N : List Str} {qual : Str} {sc : Scope} {f : Addr} {cdv : Value} {A : Around} {outer : List PySem.Env} {s : Shared} {H : Hp} {E : XK} :
    Takes (cxOf (L2.CX P w) P w K mg base N qual sc f cdv A outer s H E) (fun cls d _ H => E cls d H) := takes_of rfl rfl rfl rfl
def EN : XK := fun _ _ _ => False
/-- nothing of it comes out -/
theorem passN {X : Cx} : Passes (L2.CX X.prog X.w) X EN := fun _ _ _ _ _ _ _ ⟨_, _, _, _, _, _, _, _, _, _, _, _, h⟩ => h.elim
/-- no exception is taken further -/
theorem takesN {X : Cx} : Takes X (fun _ _ _ _ => False) := fun _ _ ⟨_, _, _, _, _, _, _, _, _, _, _, _, _, _, _, _, h⟩ => h.elim
theorem hxN {mg : Str → Option Value} {ecs : List Str} : ∀ (c : Str) (d : DV) (H' : Hp), W0 c d H' → XO mg ecs EN c d H' := fun _ _ _ h => h.elim
theorem hxI {W : Wx} : ∀ (c : Str) (d : DV) (H' : Hp), W c d H' → W c d H' := fun _ _ _ h => h
def gNX (g : GE) : GE := fun ρ => match g ρ with
  | .ok d => .ok d
  | _ => .stuck
theorem se_nx {C : Cxt} {W : Wx} {Γ : List Md} {t : TE} {g : GE} {m : Md} (h : SE C W0 Γ t g m) : SE C W Γ t (gNX g) m := by
  intro F H σ ρ L Q hL r k
  refine h F H σ ρ L Q hL r ?_
  unfold gNX at k
  revert k
  cases g ρ with
  | ok d => exact fun k => k
  | ex c d => exact fun k => k.elim
  | stuck => exact fun k => k
theorem nio1 {i j : Nat} {v : V} {m : Md} (h : i ≠ j) : ∀ p ∈ [(i, v, m)], p.1 ≠ j := fun p hp => by
  rcases List.mem_cons.mp hp with rfl | hp
  · exact h
  · cases hp
theorem nth_mem {xs : List Str} {x : Str} (i : Nat) (h : xs[i]? = some x) : x ∈ xs := List.mem_of_getElem? h
/-- try: body / except x as n: suite, nothing taken further -/
theorem kx_try {X : Cx} {K : PySem.W.Frag} {x nm : Str} {cw : Value} {n i : Nat} {body suite : List Stmt} {b₀ : Stmt} {np pos pos' : Pos} {tb : XK → TS} {ts : Addr → Value → Option Addr → TS} (hK : X.K = K) (hs : X.stack = X.env :: X.outer) (hf : X.env.frame = some X.env.locals) (hN : X.N.Nodup) (hn : X.N.length = n)
    (hi : X.N[i]? = some nm) (hln : X.env.kindOf nm = some .local) (hg : Gl X x) (hd : (x == ("__debug__" : Str)) = false) (hm : X.mg x = some cw)
    (hb : ∀ (E : XK) (pn : List (Addr × Obj)) (xe : Value → Shared → Prop), Passes (L2.CX X.prog X.w) (X.tr pn xe) E → PassesOwn (model X.prog X.w) X.A X.env xe → PSs (X.tr pn xe) body (tb E))
    (hsu : ∀ (a : Addr) (oe : Obj) (cls : Value) (d : Option Addr) (pn : List (Addr × Obj)), Zc cls d oe → (∃ vs, oe.data = .fields vs) → PSs (X.suite a ((a, oe) :: pn)) (b₀ :: suite) (ts a cls d)) :
    PS X (.Try body [.ExceptHandler (some (.Name x np)) (some nm) (b₀ :: suite) pos'] [] [] pos) (tTryX K cw n i tb ts (fun _ _ _ _ => False)) := by
  subst hK
  exact ps_try_as (tb := fun W => tb (anyS n W)) hs hf hN hi hln ⟨hg, hd, .inl hm⟩ takesN (fun W pn xe t pw => hb (anyS n W) pn xe (pass_try t hn) pw) hsu
/-! a choice as a test -/
def tIfT (c a b : TT) : TT := fun σ H Q => c σ H fun z H1 => if z = true then a σ H1 Q else b σ H1 Q
theorem pt_ifT {X : Cx} {c a b : Expr} {tc ta tb : TT} {pos : Pos} (hc : PT X c tc) (ha : PT X a ta) (hb : PT X b tb) : PT X (.IfExp c a b pos) (tIfT tc ta tb) := by
  refine ⟨fun pins s σ H Q I h => ?_⟩
  unfold PySem.isTrue
  refine wpAny_bind (thn (hc.run pins s σ H _ I h) fun z s1 k => ?_)
  obtain ⟨H1, I1, q⟩ := k
  cases z with
  | true => exact ha.run pins s1 σ H1 Q I1 q
  | false => exact hb.run pins s1 σ H1 Q I1 q
def gIfT (c a b : GT) : GT := fun ρ => (c ρ).bind fun z => if z = true then a ρ else b ρ
theorem st_ifT {C : Cxt} {W : Wx} {Γ : List Md} {t ta tb : TT} {f ga gb : GT} (h : ST C W Γ t f) (ha : ST C W Γ ta ga) (hb : ST C W Γ tb gb) : ST C W Γ (tIfT t ta tb) (gIfT f ga gb) := by
  intro F H σ ρ L Q hL r k
  show t σ H fun c H1 => if c = true then ta σ H1 Q else tb σ H1 Q
  refine st_thenT h hL r k fun z F1 H1 s1 s2 r1 k1 => ?_
  cases z with
  | true => rw [if_pos rfl] at k1 ⊢; exact ha F1 H1 σ ρ L Q hL r1 k1
  | false => rw [if_neg Bool.false_ne_true] at k1 ⊢; exact hb F1 H1 σ ρ L Q hL r1 k1
end
end DL
end

/-! text DX3 -/
section
set_option maxRecDepth 100000
set_option maxHeartbeats 4000000
/-! own exceptions, part 3: what the written part must say, as tests -/
namespace DL
open PySem PySem.Spec PyProof.Rows L2
def eqV (o : Option (Option Value)) (v : Option (Option Value)) : Bool := decide (o = v)
theorem band {a b : Bool} (h : (a && b) = true) : a = true ∧ b = true := (Bool.and_eq_true _ _).mp h
def iniAt (K : PySem.W.Frag) (x : Str) : Addr := match PySem.W.findIn K (.ref (He.ga K x)) "__init__" with
  | some (some (.ref f)) => f
  | _ => 0
abbrev IniW : Type := Option (Str × Str × Arguments × FuncBody × Scope × Addr × Addr)
def iniW (K : PySem.W.Frag) (x : Str) : IniW := match K.lookup (iniAt K x) with
  | some ⟨_, _, .func fd, _⟩ => some (fd.name, fd.qualname, fd.params, fd.body, fd.scope, fd.globals, fd.builtins)
  | _ => none
/-- the code object of the file pf -/
def codF (K : PySem.W.Frag) (pf : Str) (cda : Addr) : Bool := match K.lookup cda with
  | some ⟨_, _, .fields vs, _⟩ => (match (vs[2]? : Option Value) with
    | some (.str file _) => pf == file
    | _ => false)
  | _ => false
/-- the cell of the class D -/
def celF (K : PySem.W.Frag) (D cc : Addr) : Bool := match K.lookup cc with
  | some ⟨_, _, .cell (some (.ref E)), _⟩ => decide (E = D)
  | _ => false
def noneV : Value → Bool
  | .none => true
  | _ => false
theorem noneV_ok {v : Value} (h : noneV v = true) : v = .none := by
  cases v <;> first | rfl | cases h
def iniB (x pf : Str) (K : PySem.W.Frag) : Bool := match K.lookup (iniAt K x) with
  | some ⟨_, _, .func fd, _⟩ => (match fd.closure, fd.code with
    | [(cn, cc)], .ref cda => noneV fd.defaults && (decide (cn = ("__class__" : Str)) && (PySem.W.codeIn K (.ref cda) fd.qualname && (codF K pf cda && (celF K (He.ga K x) cc && ((PySem.W.clsIn K (He.ga K x)).isSome && decide (PySem.W.typeIn K (.ref (iniAt K x)) = some (.type "function")))))))
    | _, _ => false)
  | _ => false
def thpB (K : PySem.W.Frag) : Bool := eqV (PySem.W.nsIn K cStatics "thirdparty.any") (some none)
theorem init_of {P : Program} {K : PySem.W.Frag} {mg : Str → Option Value} {x qual : Str} {params : Arguments} {ar : Arg} {p0 p1 p2 p3 p4 p5 p6 p7 p8 p9 : Pos}
    (e : iniW K x = (some (("__init__" : Str), qual, params, FuncBody.stmts (exBody p0 p1 p2 p3 p4 p5 p6 p7 p8 p9), exScope, mainGlobals, builtinsNs) : IniW)) (q : iniB x P.main.file K = true) (ha : thpB K = true) (hsu : mg "super" = none) (htop : (P.main.scope.names.lookup ("super" : Str)).isSome = false)
    (hpar : (params.posonlyargs ++ params.args).head? = some ar) (har : ar.arg = ("self" : Str))
    (hb : ∀ (kV doc pm ct : Value) (an : Option Addr) (cda cc : Addr) (u v : Value), bindArgs (PySem.W.ksFn "__init__" qual params (exBody p0 p1 p2 p3 p4 p5 p6 p7 p8 p9) exScope .none kV doc pm an (.ref cda) ct cc) ⟨[u, v], []⟩ = pure [(("self" : Str), u), (("at" : Str), v)])
    (hev : ∀ (L fI cda cc : Addr), ∃ pl : Sem Bool, eval (.Call (.Attribute (.Call (.Name "super" p0) [] [] p1) "__init__" p2) [.Name "at" p3] [] p4) (inEnv qual L fI (.ref cda) cc) = (do
        let ov ← attributeBase (.Call (.Name "super" p0) [] [] p1) "__init__" (inEnv qual L fI (.ref cda) cc) (eval (.Call (.Name "super" p0) [] [] p1) (inEnv qual L fI (.ref cda) cc))
        standAt p2.atName
        let (f, first) ← holding [ov] (getMethod ov "__init__" pl)
        callWith p4 f first (backTo p4 (starEach [.Name "at" p3] (inEnv qual L fI (.ref cda) cc))) [])) :
    ∃ I : XIn P K mg, I.D = He.ga K x ∧ I.fI = iniAt K x := by
  unfold iniB at q
  unfold iniW at e
  cases lk : K.lookup (iniAt K x) with
  | none => rw [lk] at q; cases q
  | some o =>
    obtain ⟨oc, od, dt, osl⟩ := o
    rw [lk] at q e
    cases dt with
    | func fd =>
      obtain ⟨n1, n2, n3, n4, n5, n6, n7, n8, n9, n10, n11, n12, n13, n14, n15⟩ := fd
      have e2 : (some (n1, n2, n3, n4, n5, n6, n15) : IniW) = some (("__init__" : Str), qual, params, FuncBody.stmts (exBody p0 p1 p2 p3 p4 p5 p6 p7 p8 p9), exScope, mainGlobals, builtinsNs) := e
      simp only [Option.some.injEq, Prod.mk.injEq] at e2
      obtain ⟨h1, h2, h3, h4, h5, h6, h7⟩ := e2
      subst h1 h2 h3 h4 h5 h6 h7
      dsimp only at q
      split at q
      · rename_i cn cc cda
        obtain ⟨q0, r0⟩ := band q
        have e0 := noneV_ok q0
        subst e0
        clear q
        obtain ⟨q1, q⟩ := band r0
        obtain ⟨q2, q⟩ := band q
        obtain ⟨q3, q⟩ := band q
        obtain ⟨q4, q⟩ := band q
        obtain ⟨q5, q6⟩ := band q
        have ecn := of_decide_eq_true q1
        subst ecn
        unfold codF at q3
        split at q3
        · rename_i ccl cdd vs ccs lc
          split at q3
          · rename_i file tf hvs
            unfold celF at q4
            split at q4
            · rename_i cl cld E csl lcc
              have eD := of_decide_eq_true q4
              subst eD
              obtain ⟨cdD, hD⟩ := Option.isSome_iff_exists.mp q5
              refine ⟨⟨_, iniAt K x, _, fun w base k => sup_init (k := k) lk q2 lc hvs q3 lcc hD hsu (of_decide_eq_true ha) htop hpar har (fun L => hev L _ _ _), ?_, of_decide_eq_true q6⟩, rfl, rfl⟩
              refine Binds.all fun us hl => ?_
              match us, hl with
              | [u, v], _ => exact hb _ _ _ _ _ _ _ u v
            · cases q4
          · cases q3
        · cases q3
      · cases q
    | _ => cases q
/-! the own exception classes -/
def excB (K : PySem.W.Frag) (C : Addr) : Bool := match K.lookup C with
  | some ⟨.type t, _, .cls cd, sl⟩ => decide (t = "type") && (match cd.mro, sl.toList with
    | .ref C' :: bm, [_, _, _, _, some (.builtin n), _] => decide (C' = C) && (decide (n = "ValueError.__new__") && (!cd.hasDel && (cd.hasDict && PySem.HandSPX.refsVE bm)))
    | _, _ => false)
  | _ => false
theorem excB_ok {K : PySem.W.Frag} {C : Addr} (h : excB K C = true) : ∃ nm q N bs bm sn sub ab col dd k0 k1 k2 k3 k5, K.lookup C = some (excClassObj nm q C N bs bm true sn sub ab col dd k0 k1 k2 k3 k5 "ValueError.__new__") ∧ PySem.HandSPX.refsVE bm = true := by
  unfold excB at h
  split at h
  · rename_i t dd cd sl lk
    obtain ⟨h1, h⟩ := band h
    have e1 := of_decide_eq_true h1
    subst e1
    split at h
    · rename_i C' bm k0 k1 k2 k3 n k5 hm hs
      obtain ⟨_, h⟩ := band h
      obtain ⟨h1, h⟩ := band h
      obtain ⟨h2, h⟩ := band h
      obtain ⟨h3, h⟩ := band h
      obtain ⟨h4, h5⟩ := band h
      have e1 := of_decide_eq_true h1
      have e2 := of_decide_eq_true h2
      subst e1 e2
      obtain ⟨c1, c2, c3, c4, c5, c6, c7, c8, c9, c10, c11⟩ := cd
      dsimp only at hm h3 h4
      subst hm h4
      have e3 : c11 = false := by simpa using h3
      subst e3
      obtain ⟨l⟩ := sl
      have e4 : l = _ := hs
      subst e4
      exact ⟨_, _, _, _, _, _, _, _, _, _, _, _, _, _, _, lk, h5⟩
    · cases h
  · cases h
def exfB (x c : Str) (K : PySem.W.Frag) : Bool := excB K (He.ga K c) && (eqV (PySem.W.findIn K (.ref (He.ga K c)) "__setattr__") (some (some (.builtin "object.__setattr__"))) && (decide (PySem.W.subIn K (.ref (He.ga K c)) (.type "BaseException") = some true) &&
  (decide (PySem.W.typeIn K (.ref (He.ga K c)) = some (.type "type")) && (PySem.W.keepIn K (.ref (He.ga K c)) && (decide (PySem.W.mroIn K (He.ga K c) (.ref (He.ga K x)) = some true) && (decide (PySem.W.subIn K (.ref (He.ga K c)) (.type "ValueError") = some true) &&
  (eqV (PySem.W.ks_superIn K (He.ga K c) (He.ga K x) "__init__") (some (some (.builtin "ValueError.__init__"))) && (eqV (PySem.W.findIn K (.ref (He.ga K c)) "at") (some none) && (eqV (PySem.W.findIn K (.ref (He.ga K c)) "__init__") (some (some (.ref (iniAt K x)))) &&
  (xfB K (He.ga K c) && (eqV (PySem.W.findIn K (.ref (He.ga K c)) "__class__") (some (some (.builtin "object.__class__"))) && (eqV (PySem.W.specialIn K (.builtin "object.__class__") "__get__") (some (some (.builtin "getset_descriptor.__get__"))) &&
  (decide (PySem.W.takesIn K (.builtin "object.__class__") = some true) && decide (PySem.W.mroIn K (He.ga K c) (.type "object") = some true))))))))))))))
theorem exfB_ok {K : PySem.W.Frag} {x c : Str} (h : exfB x c K = true) : ExF K (He.ga K x) (iniAt K x) (He.ga K c) := by
  obtain ⟨a1, h⟩ := band h
  obtain ⟨a2, h⟩ := band h
  obtain ⟨a3, h⟩ := band h
  obtain ⟨a4, h⟩ := band h
  obtain ⟨a5, h⟩ := band h
  obtain ⟨a6, h⟩ := band h
  obtain ⟨a7, h⟩ := band h
  obtain ⟨a8, h⟩ := band h
  obtain ⟨a9, h⟩ := band h
  obtain ⟨a10, h⟩ := band h
  obtain ⟨a11, h⟩ := band h
  obtain ⟨a12, h⟩ := band h
  obtain ⟨a13, h⟩ := band h
  obtain ⟨a14, a15⟩ := band h
  exact ⟨⟨excB_ok a1, of_decide_eq_true a2, of_decide_eq_true a3, of_decide_eq_true a4, a5⟩, of_decide_eq_true a6, of_decide_eq_true a7, of_decide_eq_true a8, of_decide_eq_true a9, of_decide_eq_true a10, xfB_ok a11, of_decide_eq_true a12, of_decide_eq_true a13, of_decide_eq_true a14, of_decide_eq_true a15⟩
def gloB (ecs : List Str) (K : PySem.W.Frag) : Bool := ecs.all fun c => (He.Fa.glo c).ok K
def clsB (x : Str) (ecs : List Str) (K : PySem.W.Frag) : Bool := ecs.all fun c => exfB x c K
def exmB (x : Str) (ecs : List Str) (K : PySem.W.Frag) : Bool := ecs.all fun c => decide (PySem.W.exmOne K (.ref (He.ga K c)) (.ref (He.ga K x)) = some true)
def isB (ecs : List Str) (K : PySem.W.Frag) : Bool := ecs.all fun c => ecs.all fun y => decide (PySem.W.kitOne K (.ref (He.ga K c)) (.ref (He.ga K y)) = some (decide (c = y)))
section
variable {K : PySem.W.Frag} {h : Heap} {mg : Str → Option Value} {x : Str} {ecs : List Str}
theorem glo_at (X : K.In h) (G : h.Ns mainGlobals mg) (q : gloB ecs K = true) {c : Str} (hc : c ∈ ecs) : mg c = some (.ref (He.ga K c)) := He.glo_ok X G (List.all_eq_true.mp q c hc)
theorem glo_eq (X : K.In h) (G : h.Ns mainGlobals mg) (q : gloB ecs K = true) {c : Str} (hc : c ∈ ecs) {Ca : Addr} (e : mg c = some (.ref Ca)) : Ca = He.ga K c := by
  rw [glo_at X G q hc] at e
  cases e
  rfl
theorem cls_at (X : K.In h) (G : h.Ns mainGlobals mg) (q : gloB ecs K = true) (q2 : clsB x ecs K = true) : ∀ c ∈ ecs, ∀ Ca, mg c = some (.ref Ca) → ExF K (He.ga K x) (iniAt K x) Ca := fun c hc Ca e => by
  rw [glo_eq X G q hc e]
  exact exfB_ok (List.all_eq_true.mp q2 c hc)
theorem exm_at (X : K.In h) (G : h.Ns mainGlobals mg) (q : gloB ecs K = true) (q2 : exmB x ecs K = true) : ∀ c ∈ ecs, ∀ Ca, mg c = some (.ref Ca) → PySem.W.exmOne K (.ref Ca) (.ref (He.ga K x)) = some true := fun c hc Ca e => by
  rw [glo_eq X G q hc e]
  exact of_decide_eq_true (List.all_eq_true.mp q2 c hc)
theorem is_at (X : K.In h) (G : h.Ns mainGlobals mg) (q : gloB ecs K = true) (q2 : isB ecs K = true) : ∀ c ∈ ecs, ∀ Ca, mg c = some (.ref Ca) → ∀ y ∈ ecs, ∀ Ya, mg y = some (.ref Ya) → PySem.W.kitOne K (.ref Ca) (.ref Ya) = some (decide (c = y)) := fun c hc Ca e y hy Ya e2 => by
  rw [glo_eq X G q hc e, glo_eq X G q hy e2]
  exact of_decide_eq_true (List.all_eq_true.mp (List.all_eq_true.mp q2 c hc) y hy)
end
end DL
end

/-! text DO0 -/
section
set_option maxRecDepth 100000
set_option maxHeartbeats 4000000
/-! objects: fields, making, methods; an object is frozen behind its __init__ -/
namespace DL
open PySem PySem.Spec PyProof.Rows L2
section
variable {C : Cxt} {W : Wx} {F F' H H' : Hp} {Γ Γb Γ' : List Md} {σ : L2.St} {ρ : EnvD} {L : List Ent} {m ma mb mr me mi : Md} {d : DV} {v : V} {Dn : Ends}
/-! ### a field is read -/
@[reducible] def Md.fld : Md → Bool
  | .fr => true
  | .bo => true
  | .po .fr => true
  | _ => false
theorem Rep.flds {c : Str} {ns : List Str} {ds : List DV} (r : Rep C F H Γ σ ρ ((m, .obj c ns ds, v) :: L)) (q : m.fld = true) :
    ∃ a Ca dx vs, v = .ref a ∧ C.mg c = some (.ref Ca) ∧ H a = some (.ins Ca dx (ns.zip vs)) ∧ ns.length = vs.length ∧ Alls (At C F H m.kid) ds vs [] := by
  obtain ⟨f, h⟩ := r.head
  match m, q, h with
  | .fr, _, h =>
    obtain ⟨a, vs, h1, ⟨Ca, dx, h2, h3, h4⟩, h5⟩ := h.2
    exact ⟨a, Ca, dx, vs, h1, h2, r.fit.fh _ _ h3, h4, h5.at fun d v x => ⟨rfl, x⟩⟩
  | .bo, _, h =>
    obtain ⟨a, vs, h1, ⟨Ca, dx, h2, h3, h4⟩, h5⟩ := h.2
    exact ⟨a, Ca, dx, vs, h1, h2, r.fit.bh _ _ h3, h4, Alls.of_das h5 fun d v x => ⟨rfl, x⟩⟩
  | .po .fr, _, h =>
    unfold At at h
    rw [if_pos (show isObj (.obj c ns ds) = true from rfl)] at h
    obtain ⟨a, vs, h1, h2, h3⟩ := h
    obtain ⟨Ca, dx, g1, g2, g3⟩ := h2
    exact ⟨a, Ca, dx, vs, h1, g1, g2, g3, h3.pt fun d v f x => ⟨rfl, x.2⟩⟩
theorem Alls.lookup {R : DV → V → List Addr → Prop} {f : Str} {d : DV} : ∀ {ns : List Str} {ds : List DV} {vs : List V}, Alls R ds vs [] → (ns.zip ds).lookup f = some d → ∃ v, (ns.zip vs).lookup f = some v ∧ R d v []
  | [], _, _, _, e => by simp at e
  | n :: ns, [], _, _, e => by simp at e
  | n :: ns, d1 :: ds, _, ⟨v, r, f1, f2, h1, h2, h3, h4⟩, e => by
    subst h1
    have e1 : f1 = [] := (List.append_eq_nil_iff.mp h2.symm).1
    have e2 : f2 = [] := (List.append_eq_nil_iff.mp h2.symm).2
    subst e1
    subst e2
    rw [List.zip_cons_cons, List.lookup_cons] at e ⊢
    cases z : f == n with
    | true =>
      rw [z] at e
      cases e
      exact ⟨v, rfl, h3⟩
    | false =>
      rw [z] at e
      exact Alls.lookup h4 e
def gFld (c f : Str) (g : GE) : GE := fun ρ => (g ρ).bind fun d => match d with
  | .obj c' ns ds => if c' = c then ofO ((ns.zip ds).lookup f) else .stuck
  | _ => .stuck
theorem se_fld {c f : Str} {Ca : Addr} {t : TE} {g : GE} (h : SE C W Γ t g m) (hm : C.mg c = some (.ref Ca)) (hc : Cls C.K Ca) (hn : NoAttr C.K Ca f) (q : m.fld = true := by rfl) : SE C W Γ (tFld C.K t f) (gFld c f g) m.kid := by
  intro F H σ ρ L Q hL r k
  show t σ H fun x H1 => ∃ a C' dx fs v, x = .ref a ∧ H1 a = some (.ins C' dx fs) ∧ Cls C.K C' ∧ NoAttr C.K C' f ∧ fs.lookup f = some v ∧ Q v H1
  refine se_then h hL r k fun d F1 H1 x s1 s2 r1 k1 => ?_
  cases d with
  | obj c' ns ds =>
    replace k1 : PE' C W Γ F1 H1 σ ρ L m.kid Q (if c' = c then ofO ((ns.zip ds).lookup f) else .stuck) := k1
    split at k1
    · rename_i hz
      subst hz
      obtain ⟨a, Cb, dx, vs, e1, e2, e3, e4, e5⟩ := r1.flds q
      rw [hm] at e2
      cases e2
      cases e : (ns.zip ds).lookup f with
      | none => rw [e] at k1; exact k1.elim
      | some d =>
        rw [e] at k1
        obtain ⟨v, l1, l2⟩ := e5.lookup e
        exact ⟨a, Ca, dx, _, v, e1, e3, hc, hn, l1, PE'.give r1.tail k1 l2⟩
    · exact k1.elim
  | _ => exact k1.elim
/-! ### self.f = e, in __init__ -/
theorem putF_new {f : Str} {y : V} : ∀ {ns : List Str} {vs : List V}, f ∉ ns → ns.length = vs.length → putF f y (ns.zip vs) = (ns ++ [f]).zip (vs ++ [y])
  | [], [], _, _ => rfl
  | n :: ns, w :: vs, h, e => by
    have h1 : n ≠ f := fun z => h (z ▸ List.mem_cons_self)
    rw [List.zip_cons_cons, List.cons_append, List.cons_append, List.zip_cons_cons]
    unfold putF
    rw [if_neg h1, putF_new (fun z => h (List.mem_cons_of_mem _ z)) (by simpa using e)]
  | [], _ :: _, _, e => by cases e
  | _ :: _, [], _, e => by cases e
theorem Rep.putF {c f : Str} {ns : List Str} {ds : List DV} {dy : DV} {y : V} (r : Rep C F H Γ σ ρ ((.fr, dy, y) :: (.ob .fr, .obj c ns ds, v) :: L)) (hΓ : Γ.all Md.stor = true) (hf : f ∉ ns) (hs : storL L) :
    ∃ p Ca dx vs, v = .ref p ∧ C.mg c = some (.ref Ca) ∧ H p = some (.ins Ca dx (ns.zip vs)) ∧ ns.length = vs.length ∧ Rep C F (L2.upd H p (.ins Ca dx (L2.putF f y (ns.zip vs)))) Γ σ ρ ((.ob .fr, .obj c (ns ++ [f]) (ds ++ [dy]), v) :: L) := by
  obtain ⟨f1, f2, nd, a, g1, g2, h1, h2, g3, g4, h3, h4, h5⟩ := r.own
  unfold At at h4
  rw [if_pos (show isObj (.obj c ns ds) = true from rfl)] at h4
  obtain ⟨p, vs, o, fc, e1, e2, e3, e4, e5, e6, e7⟩ := h4
  obtain ⟨Ca, dx, u1, u2, u3⟩ := e5
  subst u2
  subst e1
  subst e6
  subst h3
  subst h1
  obtain ⟨hg1, hda⟩ := h2
  subst hg1
  refine ⟨p, Ca, dx, vs, rfl, u1, e4, u3, ?_⟩
  rw [putF_new hf u3]
  generalize hN : (HO.ins Ca dx ((ns ++ [f]).zip (vs ++ [y])) : HO) = N
  have tN : tupO N = false := by rw [← hN]; rfl
  have np := List.nodup_append.mp nd
  rw [List.nil_append] at np
  have np3 := List.nodup_append.mp np.2.1
  have np4 := List.nodup_cons.mp np3.1
  have n1 : ∀ x ∈ f1, x ≠ p := fun x hx e => np.2.2 x hx p (List.mem_append_left _ List.mem_cons_self) e
  have n3 : ∀ x ∈ fc, x ≠ p := fun x hx e => np4.1 (e ▸ hx)
  have n4 : ∀ x ∈ g4, x ≠ p := fun x hx e => np3.2.2 p List.mem_cons_self x hx e.symm
  have o1 := a.owned
  have o4 := h5.owned
  have nm : ∀ x u, L2.upd H p N x = some u → tupO u = true → H x = some u := fun x u e t => by
    by_cases z : x = p
    · subst z; rw [upd_same] at e; cases e; rw [tN] at t; cases t
    · rw [upd_ne z] at e; exact e
  have lq : ∀ x u, x ≠ p → H x = some u → L2.upd H p N x = some u := fun x u z e => by rw [upd_ne z]; exact e
  have fit : Fit C F (L2.upd H p N) := ⟨r.fit.ff, fun x u e => lq x u (fun z => by rw [z, e2] at e; cases e) (r.fit.fh _ _ e), fun x u e => lq x u (fun z => by rw [z, e3] at e; cases e) (r.fit.bh _ _ e), r.fit.f0, fun x u e t => r.fit.tp x u (nm x u e t) t⟩
  have e8 : Alls (At C F (L2.upd H p N) .fr) ds vs fc := e7.imp fun d v f hf x => x
  refine ⟨fit, r.io, f1, (p :: (fc ++ [])) ++ g4, ?_, a.mono (Same.refl _) (fun x hx => (o1 x hx).1) (fun x hx => upd_ne (n1 x hx)) (.inl hΓ), p :: (fc ++ []), g4, rfl, ?_, h5.safe (Safe.of hs) (fun x hx => (o4 x hx).1) n4⟩
  · simpa using nd
  · unfold At
    rw [if_pos (show isObj (.obj c (ns ++ [f]) (ds ++ [dy])) = true from rfl)]
    refine ⟨p, vs ++ [y], N, fc ++ [], rfl, e2, e3, upd_same, ⟨Ca, dx, u1, hN.symm, ?_⟩, rfl, e8.append (Alls.one ⟨rfl, hda⟩)⟩
    rw [List.length_append, List.length_append, u3]
    rfl
def gSetF (i : Nat) (c f : Str) (g : GX) : GS := fun ρ => match g ρ with
  | .ok (y, ρ') => (match lk ρ' i with
    | .ok (.obj c' ns ds) => if c' = c ∧ (f ∉ ns ∧ ns.length < 1000) then .nx (ρ'.set i (some (.obj c' (ns ++ [f]) (ds ++ [y])))) else .stuck
    | _ => .stuck)
  | .ex c d => .ex c d
  | .stuck => .stuck
theorem ss_setF {i : Nat} {c f : Str} {Ca : Addr} {t : TE} {g : GX} (hi : Γ[i]? = some (.ob .fr)) (h : SX C W Γ t g .fr) (hm : C.mg c = some (.ref Ca)) (hc : Cls C.K Ca) (hn : NoAttr C.K Ca f) (hΓ : Γ.all Md.stor = true := by rfl) : SS C W mr Γb Γ (sFld C.K (tVar i) t f) (gSetF i c f g) Γ := by
  intro F H σ ρ L Dn hs r k
  show t σ H fun y H1 => ∃ x, σ[i]? = some (some x) ∧ ∃ a C' dx fs, x = .ref a ∧ H1 a = some (.ins C' dx fs) ∧ Cls C.K C' ∧ NoAttr C.K C' f ∧ fs.length < 1000 ∧ Dn.nx σ (L2.upd H1 a (.ins C' dx (L2.putF f y fs)))
  refine h F H σ ρ L _ hs r ?_
  unfold gSetF at k
  revert k
  cases g ρ with
  | ex c d => exact fun k => k
  | stuck => exact fun k => k
  | ok p =>
    obtain ⟨dy, ρ'⟩ := p
    intro k F1 H1 y s1 r1
    replace k : PS' C W mr Γb Γ F H L Dn (match lk ρ' i with | .ok (.obj c' ns ds) => if c' = c ∧ (f ∉ ns ∧ ns.length < 1000) then .nx (ρ'.set i (some (.obj c' (ns ++ [f]) (ds ++ [dy])))) else .stuck | _ => .stuck) := k
    rcases lk_cases ρ' i with ⟨d, g2, g3⟩ | g3
    · rw [g3] at k
      cases d with
      | obj c' ns ds =>
        replace k : PS' C W mr Γb Γ F H L Dn (if c' = c ∧ (f ∉ ns ∧ ns.length < 1000) then .nx (ρ'.set i (some (.obj c' (ns ++ [f]) (ds ++ [dy])))) else .stuck) := k
        split at k
        · rename_i hz
          obtain ⟨hz1, hz2, hz3⟩ := hz
          subst hz1
          obtain ⟨v, h2, r2⟩ := r1.take hi g2
          obtain ⟨p, Cb, dx, vs, z1, z2, z3, z4, r3⟩ := r2.swap.putF hΓ hz2 hs
          rw [hm] at z2
          cases z2
          refine ⟨v, h2, p, Ca, dx, _, z1, z3, hc, hn, ?_, ?_⟩
          · rw [List.length_zip, z4, Nat.min_self, ← z4]; exact hz3
          · have r4 := r3.back h2 (.inl hi)
            rw [set_set', set_id hi] at r4
            exact k F1 _ σ s1 r4
        · exact k.elim
      | _ => exact k.elim
    · rw [g3] at k
      exact k.elim
/-! ### __init__ -/
def hole (x : Addr) (H : Hp) : Hp := fun a => if a = x then none else H a
theorem hole_same {x : Addr} : Same (hole x H) H := fun a o e => by
  unfold hole at e
  split at e
  · cases e
  · exact e
abbrev CN (K : PySem.W.Frag) (mg : Str → Option Value) (x : Addr) (H F : Hp) : Cxt := ⟨K, mg, hole x H, F, [(0, .ref x, .ob .fr)]⟩
def PN (C : Cxt) (XW : Wx) (F : Hp) (x : Addr) (Q : VK) : Rs DV → Prop
  | .ok d => ∀ F' H', Same F F' → Fit C F' H' → DA C.K C.mg F' d (.ref x) → Q .non H'
  | .ex c d => ∀ F' H', Same F F' → Fit C F' H' → XW c d H'
  | .stuck => False
/-- an __init__'s promise by its mirror -/
def spN (K : PySem.W.Frag) (mg : Str → Option Value) (XW : XK → Wx) (c : Str) (pm : List Md) (f : List DV → Rs DV) : Sp := fun vs H Q E =>
  ∃ x Ca dx ws F ds, vs = .ref x :: ws ∧ mg c = some (.ref Ca) ∧ H x = some (.ins Ca dx []) ∧ F x = none ∧ Fit (CN K mg x H F) F H ∧ ArgsAt (CN K mg x H F) F H pm ds ws ∧ PN (CN K mg x H F) (XW E) F x Q (f ds)
def startN (c : Str) (n : Nat) (ds : List DV) : EnvD := some (.obj c [] []) :: startD n ds
def finN : Out → Rs DV
  | .nx (some d :: _) => if isObj d = true then .ok d else .stuck
  | .ex c d => .ex c d
  | _ => .stuck
/-- an __init__'s mirror by its body's, over n + 1 slots -/
def runN (c : Str) (g : GS) (n : Nat) (ds : List DV) : Rs DV := finN (g (startN c n ds))
theorem fnN {P : Program} {w : World} {CX : CXT} {XW : XK → Wx} {K : PySem.W.Frag} {mg : Str → Option Value} {base : Heap} {k : Nat} {x qual c : Str} {st : Stmt} {f : Addr} {fd : FuncData} {N ps : List Str} {pm Γl : List Md} {g : GS}
    (Fn : FunD K x qual (defArgs st) (defBody st) (defScope st) [] [] f fd) (S : FnScope N ps (defScope st)) (hp : pm.length + 1 = ps.length) (hN : pm.length + Γl.length + 1 = N.length)
    (hb : ∀ (cdv : Value) (A : Around) (outer : List PySem.Env) (s : Shared) (H : Hp) (E : XK), Room k (A.deeper (envOfC qual (defScope st) s.heap.objs.size f cdv)) →
      ∃ t, PSs (cxOf CX P w K mg base N qual (defScope st) f cdv A outer s H E) (defBody st) t ∧ ∀ (Bp F0 : Hp) (a : Addr), ∃ Γ', SS ⟨K, mg, Bp, F0, [(0, .ref a, .ob .fr)]⟩ (XW E) .fr [] (.ob .fr :: (pm ++ Γl)) t g Γ') :
    FnOk P w K mg base CX (k + 1) f fd ps (spN K mg XW c pm (runN c g (pm.length + Γl.length))) := by
  refine Fn.ok S (fun vs H Q E h => ?_) fun cdv A outer s H vs Q E hr h => ?_
  · obtain ⟨x, Ca, dx, ws, F, ds, e1, _, _, _, _, h2, _⟩ := h
    rw [e1, List.length_cons, h2.len.2, hp]
  · obtain ⟨x, Ca, dx, ws, F, ds, e1, hm, hx, hF, h1, h2, h3⟩ := h
    subst e1
    obtain ⟨t, ht, hs⟩ := hb cdv A outer s H E hr
    obtain ⟨l1, l2⟩ := h2.len
    obtain ⟨Γ', hs⟩ := hs (hole x H) F x
    refine ⟨t, ht, hs F H (start N (.ref x :: ws)) (startN c (pm.length + Γl.length) ds) [] _ rfl ?_ ?_⟩
    · have hst : start N (.ref x :: ws) = some (.ref x) :: (ws.map some ++ List.replicate Γl.length none) := by
        unfold L2.start
        rw [List.length_cons, l2, show N.length - (pm.length + 1) = Γl.length by omega]
        rfl
      refine ⟨h1, fun p hp => ?_, [x], [], (List.nodup_cons.mpr ⟨by simp, List.nodup_nil⟩), ?_, rfl⟩
      · rw [List.mem_singleton.mp hp, hst]
        exact ⟨rfl, rfl⟩
      · rw [hst]
        unfold startN startD
        rw [l1, show pm.length + Γl.length - pm.length = Γl.length by omega]
        refine ⟨[x], [], rfl, ⟨.ref x, rfl, ?_⟩, slots_start Γl h2⟩
        unfold At
        rw [if_pos (show isObj (.obj c [] []) = true from rfl)]
        exact ⟨x, [], _, [], rfl, hF, if_pos rfl, hx, ⟨Ca, dx, hm, rfl, rfl⟩, rfl, rfl, rfl⟩
    · unfold runN at h3
      revert h3
      cases g (startN c (pm.length + Γl.length) ds) with
      | nx ρ' =>
        intro h3 F1 H1 σ1 s1 r1
        cases ρ' with
        | nil => exact h3.elim
        | cons o ρ' =>
          cases o with
          | none => exact h3.elim
          | some d =>
            have h3 : PN (CN K mg x H F) (XW E) F x _ (if isObj d = true then .ok d else .stuck) := h3
            split at h3
            · rename_i hz
              have hio := r1.io (0, .ref x, .ob .fr) List.mem_cons_self
              obtain ⟨v, e1, r2⟩ := r1.take (i := 0) hio.2 rfl
              rw [hio.1] at e1
              cases e1
              obtain ⟨F2, s2, r3⟩ := r2.freeze rfl
              exact h3 F2 H1 (s1.trans s2) r3.fit r3.fr
            · exact h3.elim
      | rt d ρ' => exact fun h => h.elim
      | bk ρ' => exact fun h => h.elim
      | ct ρ' => exact fun h => h.elim
      | ex c d => exact fun h3 F1 H1 s1 f1 => h3 F1 H1 s1 f1
      | stuck => exact fun h => h
/-! ### C(..) -/
theorem ArgsAt.to {C C' : Cxt} {F H H' : Hp} (hK : C'.K = C.K) (hm : C'.mg = C.mg) (hB : Same C.Bp C'.Bp) : ∀ {ms pm : List Md} {ds : List DV} {vs : List V}, fitsL ms pm = true → ArgsAt C F H pm ds vs → ArgsAt C' F H' pm ds vs
  | [], [], [], [], _, _ => trivial
  | m :: ms, p :: pm, d :: ds, v :: vs, q, ⟨h1, h2⟩ => by
    obtain ⟨q1, q2⟩ := (Bool.and_eq_true _ _).mp (show (Md.fits m p && fitsL ms pm) = true from q)
    refine ⟨?_, ArgsAt.to hK hm hB q2 h2⟩
    cases p with
    | bo => exact ⟨rfl, by rw [hK, hm]; exact DA.mono hB _ _ h1.2⟩
    | fr => exact ⟨rfl, by rw [hK, hm]; exact h1.2⟩
    | sc => obtain ⟨_, a, ns, e1, e2, e3⟩ := h1; exact ⟨rfl, a, ns, e1, e2, by rw [hK]; exact e3⟩
    | pk m => cases m <;> cases q1
    | own m => cases m <;> cases q1
    | tu m => cases m <;> cases q1
    | ob m => cases m <;> cases q1
    | po m => cases m <;> cases q1
  | [], _ :: _, _, _, q, _ => by cases q
  | _ :: _, [], _, _, q, _ => by cases q
  | [], [], _ :: _, _, _, h => by cases ‹List V› <;> exact h.elim
  | [], [], [], _ :: _, _, h => h.elim
  | _ :: _, _ :: _, [], _, _, h => by cases ‹List V› <;> exact h.elim
  | _ :: _, _ :: _, _ :: _, [], _, h => h.elim
theorem se_make {XW : XK → Wx} {E : XK} {c : Str} {Ca : Addr} {pm ms : List Md} {f : List DV → Rs DV} {t : TA} {g : GA} (h : SA C W Γ t g ms) (hm : C.mg c = some (.ref Ca)) (hx : ∀ c d H', W c d H' → XW E c d H') (hf : fitsL ms pm = true := by rfl) :
    SE C W Γ (tMake Ca (spN C.K C.mg XW c pm f) [] E t) (gCB f g) .fr := by
  intro F H σ ρ L Q hL r k
  show t σ H fun vs H1 => ∀ x dx, H1 x = none → H1 dx = none → dx ≠ x → spN C.K C.mg XW c pm f (.ref x :: (vs ++ [])) (upd (upd H1 dx (.own x)) x (.ins Ca dx [])) (fun v H2 => v = .non ∧ Q (.ref x) H2) E
  refine sa_then h hL r k fun ds F1 H1 vs s1 s2 e1 e2 r1 k1 x dx nx nd ne => ?_
  rw [List.append_nil]
  obtain ⟨a1, r2⟩ := r1.args hf e1 e2
  generalize hN : upd (upd H1 dx (.own x)) x (.ins Ca dx []) = N
  have N1 : Same H1 N := fun a o e => by
    rw [← hN, upd_ne (ne_of_none e nx), upd_ne (ne_of_none e nd)]
    exact e
  have N2 : Same H1 (hole x N) := fun a o e => by
    unfold hole
    rw [if_neg (ne_of_none e nx)]
    exact N1 _ _ e
  have N3 : ∀ a o, N a = some o → tupO o = true → H1 a = some o := fun a o e q => by
    rw [← hN] at e
    by_cases z : a = x
    · subst z; rw [upd_same] at e; cases e; cases q
    · rw [upd_ne z] at e
      by_cases z2 : a = dx
      · subst z2; rw [upd_same] at e; cases e; cases q
      · rw [upd_ne z2] at e; exact e
  have N4 : N x = some (.ins Ca dx []) := by rw [← hN, upd_same]
  have fx : F1 x = none := Same.free r2.fit.fh nx
  have ft : Fit (CN C.K C.mg x N F1) F1 N := ⟨Same.refl _, r2.fit.fh.trans N1, hole_same, fun a h => .inl h, fun a o e q => r2.fit.tp a o (N3 a o e q) q⟩
  refine ⟨x, Ca, dx, vs, F1, ds, rfl, hm, N4, fx, ft, ArgsAt.to (C := C0 C.K C.mg H1 F1) (C' := CN C.K C.mg x N F1) rfl rfl N2 hf a1, ?_⟩
  have cf : ∀ {F2 H2 : Hp}, Fit (CN C.K C.mg x N F1) F2 H2 → Fit (C0 C.K C.mg H1 F1) F2 H2 := fun {F2 H2} f2 => ⟨f2.ff, f2.fh, N2.trans f2.bh, fun a ha => by
    rcases f2.f0 a ha with z | z | ⟨o, z1, z2⟩
    · exact .inl z
    · exact .inr (.inl (Same.free N2 z))
    · exact .inr (.inr ⟨o, N3 a o (hole_same _ _ z1) z2, z2⟩), f2.tp⟩
  revert k1
  cases f ds with
  | ok d => exact fun k1 F2 H2 s3 f2 h2 => ⟨rfl, k1 F2 H2 (.ref x) s3 (cf f2).bh (r2.call (m := .fr) rfl (cf f2) ⟨rfl, h2⟩ List.nodup_nil)⟩
  | ex c d => exact fun k1 F2 H2 s3 f2 => hx c d H2 (k1 F2 H2 s3 (cf f2).bh (r2.fit.lift (cf f2)))
  | stuck => exact fun k1 => k1
/-! ### o.m(..) -/
def gMeth (c m : Str) (f : List DV → Rs DV) (g : GE) (ga : GA) : GE := fun ρ => (g ρ).bind fun x => match x with
  | .obj c' ns ds => if c' = c ∧ m ∉ ns then (ga ρ).bind fun es => f (.obj c' ns ds :: es) else .stuck
  | _ => .stuck
theorem lookup_none {f : Str} : ∀ {ns : List Str} {vs : List V}, f ∉ ns → (ns.zip vs).lookup f = none
  | [], _, _ => rfl
  | _ :: _, [], _ => rfl
  | n :: ns, v :: vs, h => by
    have h1 : (f == n) = false := by
      cases z : f == n with
      | false => rfl
      | true => exact absurd (beq_iff_eq.mp z) fun e => h (e ▸ List.mem_cons_self)
    rw [List.zip_cons_cons, List.lookup_cons, h1]
    exact lookup_none fun z => h (List.mem_cons_of_mem _ z)
theorem se_meth {XW : XK → Wx} {E : XK} {c mn : Str} {Ca : Addr} {p : Md} {pm ms : List Md} {f : List DV → Rs DV} {te : TE} {g : GE} {t : TA} {ga : GA} (he : SE C W Γ te g m) (h : SA C W Γ t ga ms) (hm : C.mg c = some (.ref Ca)) (hx : ∀ c d H', W c d H' → XW E c d H')
    (qf : m.fld = true := by rfl) (hp : Md.fits m p = true := by rfl) (hf : fitsL ms pm = true := by rfl) (q : mr.fz = true := by rfl) : SE C W Γ (tMeth Ca mn (spD C.K C.mg XW (p :: pm) mr f) [] E te t) (gMeth c mn f g ga) mr := by
  intro F H σ ρ L Q hL r k
  show te σ H fun x H1 => ∃ a dx fs, x = .ref a ∧ H1 a = some (.ins Ca dx fs) ∧ fs.lookup mn = none ∧ t σ H1 fun vs H2 => spD C.K C.mg XW (p :: pm) mr f (x :: (vs ++ [])) H2 Q E
  refine se_then he hL r k fun d F1 H1 x s1 s2 r1 k1 => ?_
  cases d with
  | obj c' ns dd =>
    replace k1 : PE' C W Γ F1 H1 σ ρ L mr Q (if c' = c ∧ mn ∉ ns then (ga ρ).bind fun es => f (.obj c' ns dd :: es) else .stuck) := k1
    split at k1
    · rename_i hz
      obtain ⟨hz1, hz2⟩ := hz
      subst hz1
      obtain ⟨a, Cb, dx, vs, u1, u2, u3, u4, u5⟩ := r1.flds qf
      rw [hm] at u2
      cases u2
      refine ⟨a, dx, _, u1, u3, lookup_none hz2, ?_⟩
      have hok : (m.stor || m.free) = true := by
        match m, qf with
        | .fr, _ => rfl
        | .bo, _ => rfl
        | .po .fr, _ => rfl
      refine sa_then h (okL_cons hok hL) r1 k1 fun ds F2 H2 ws s3 s4 e1 e2 r2 k2 => ?_
      rw [List.append_nil]
      obtain ⟨a1, r3⟩ := r2.args hf e1 e2
      have a0 : ArgsAt (C0 C.K C.mg H2 F2) F2 H2 [p] [.obj c' ns dd] [x] := (Rep.args (ms := [m]) (pm := [p]) (ds := [.obj c' ns dd]) (vs := [x]) r3 (by show (Md.fits m p && true) = true; rw [hp]; rfl) rfl rfl).1
      refine ⟨F2, .obj c' ns dd :: ds, ⟨Same.refl _, r3.fit.fh, Same.refl _, fun a h => .inl h, r3.fit.tp⟩, ⟨a0.1, a1⟩, ?_⟩
      revert k2
      cases f (.obj c' ns dd :: ds) with
      | ok d => exact fun k2 F3 H3 v fp s5 f3 h3 nd => k2 F3 H3 v s5 f3.bh (r3.tail.call q f3 h3 nd)
      | ex c d => exact fun k2 F3 H3 s5 f3 => hx c d H3 (k2 F3 H3 s5 f3.bh (r3.tail.fit.lift f3))
      | stuck => exact fun k2 => k2
    · exact k1.elim
  | _ => exact k1.elim
end
end DL
end

/-! text DO1 -/
section
set_option maxRecDepth 100000
set_option maxHeartbeats 4000000
/-! zip of two lists; is False -/
namespace DL
open PySem PySem.Spec PyProof.Rows L2
section
variable {C : Cxt} {W : Wx} {F F' H H' : Hp} {Γ : List Md} {σ : L2.St} {ρ : EnvD} {L : List Ent} {m ma mb mr : Md} {d : DV} {v : V} {st : Bool}
def zipD (xs ys : List DV) : List DV := (xs.zip ys).map fun p => .tup [p.1, p.2]
def dZip : List DV → Rs (List DV)
  | [.lst xs, .lst ys] => .ok (zipD xs ys)
  | _ => .stuck
def gZip (g : GA) : GI := fun ρ => (g ρ).bind dZip
theorem zipD_len {xs ys : List DV} : (zipD xs ys).length = min xs.length ys.length := by
  unfold zipD
  rw [List.length_map, List.length_zip]
theorem zipD_get {xs ys : List DV} {i : Nat} {d : DV} (h : (zipD xs ys)[i]? = some d) : ∃ x y, xs[i]? = some x ∧ ys[i]? = some y ∧ d = .tup [x, y] := by
  unfold zipD at h
  rw [List.getElem?_map] at h
  cases e : (xs.zip ys)[i]? with
  | none => rw [e] at h; cases h
  | some p =>
    rw [e] at h
    cases h
    obtain ⟨h1, h2⟩ := List.getElem?_zip_eq_some.mp e
    exact ⟨p.1, p.2, h1, h2, rfl⟩
theorem si_zip {t : TA} {g : GA} (h : SA C W Γ t g [ma, mb]) (qa : ma.ixok = true := by rfl) (qb : mb.ixok = true := by rfl) (ka : ma.kid = .fr := by rfl) (kb : mb.kid = .fr := by rfl) (sa : ma.stor = true := by rfl) (sb : mb.stor = true := by rfl) : SI C W Γ (iZip C.K t) (gZip g) .fr st := by
  intro F H σ ρ L R hL r k
  show t σ H fun vs H1 => ∃ a b xs ys, vs = [.ref a, .ref b] ∧ SqL C.K H1 a xs ∧ SqL C.K H1 b ys ∧ R (Itz C.K a b) H1
  refine h F H σ ρ L _ hL r ?_
  unfold gZip at k
  revert k
  cases g ρ with
  | ex c d => exact fun k => k
  | stuck => exact fun k => k
  | ok ds =>
    intro k F1 H1 vs s1 s2 e1 e2 r1
    match vs, ds, e1, e2, r1, k with
    | [x, y], [dx, dy], _, _, r1, k =>
      have r1 : Rep C F1 H1 Γ σ ρ ((mb, dy, y) :: (ma, dx, x) :: L) := r1
      cases dx with
      | lst xs =>
        cases dy with
        | lst ys =>
          have k : PI' C W Γ F H σ ρ L .fr st R (.ok (zipD xs ys)) := k
          obtain ⟨a, vs, h1, h2, h3⟩ := r1.tail.items qa
          obtain ⟨b, ws, g1, g2, g3⟩ := r1.items qb
          refine ⟨a, b, vs, ws, by rw [h1, g1], h2.1, g2.1, ?_⟩
          refine k F1 H1 (Itz C.K a b) [(mb, .lst ys, y), (ma, .lst xs, x)] s1 s2 (fun _ => storL_cons sb (storL_cons sa rfl)) (fun e he => ?_) r1 ?_
          · rcases List.mem_cons.mp he with z | z
            · subst z; exact ⟨ixok_free qb, r1.free (ixok_free qb)⟩
            · obtain rfl := List.mem_singleton.mp z
              exact ⟨ixok_free qa, r1.tail.free (ixok_free qa)⟩
          · intro i F2 H2 Γ2 σ2 ρ2 L2 r2
            have r2 : Rep C F2 H2 Γ2 σ2 ρ2 ((mb, .lst ys, y) :: (ma, .lst xs, x) :: L2) := r2
            obtain ⟨a2, vs2, i1, i2, i3⟩ := r2.tail.items qa
            obtain ⟨b2, ws2, j1, j2, j3⟩ := r2.items qb
            have ea : a2 = a := by rw [h1] at i1; cases i1; rfl
            have eb : b2 = b := by rw [g1] at j1; cases j1; rfl
            subst ea
            subst eb
            refine ⟨fun hl => ⟨vs2, ws2, i2.1, j2.1, ?_⟩, fun d hd => ?_⟩
            · rw [zipD_len] at hl
              rw [← i3.length, ← j3.length]
              omega
            · obtain ⟨dx, dy, e1, e2, rfl⟩ := zipD_get hd
              obtain ⟨w1, u1, u2⟩ := i3.nil_get e1
              obtain ⟨w2, u3, u4⟩ := j3.nil_get e2
              refine ⟨⟨vs2, ws2, w1, w2, i2.1, j2.1, u1, u3⟩, fun z H' hy => ?_⟩
              obtain ⟨T, p, q, rfl, hT, rfl, y1, y2⟩ := hy
              have ep : p = w1 := Option.some.inj ((y1 vs2 i2.1).symm.trans u1)
              have eq : q = w2 := Option.some.inj ((y2 ws2 j2.1).symm.trans u3)
              subst ep
              subst eq
              rw [ka] at u2
              rw [kb] at u4
              have r3 : Rep C F2 H2 Γ2 σ2 ρ2 (entsA [.fr, .fr] [dx, dy] [p, q] ((mb, .lst ys, y) :: (ma, .lst xs, x) :: L2)) := (r2.cons0 u2).cons0 u4
              obtain ⟨sf, r4⟩ := r3.tuple (m := .fr) (by decide) rfl rfl hT
              obtain ⟨F3, s3, r5⟩ := r4.freeze rfl
              exact ⟨F3, sf.trans s3, same_upd hT, r5⟩
        | _ => exact k.elim
      | _ => cases dy <;> exact k.elim
/-! ### x is False -/
def dIsB : OpD := fun x y => match x, y with
  | .bl a, .bl b => .ok (.bl (decide (a = b)))
  | _, _ => .stuck
def dNotB : OpD := fun x y => match x, y with
  | .bl a, .bl b => .ok (.bl (!decide (a = b)))
  | _, _ => .stuck
abbrev rIsB : R2 := fun x y H Q => ∃ a b, x = .bl a ∧ y = .bl b ∧ Q (.bl (decide (a = b))) H
abbrev rNotB : R2 := fun x y H Q => ∃ a b, x = .bl a ∧ y = .bl b ∧ Q (.bl (!decide (a = b))) H
theorem op_isB {X : Cx} : OpR X (compareOp .Is) rIsB := by
  intro pins s σ H x y v u Q I rx ry h
  obtain ⟨a, b, rfl, rfl, q⟩ := h
  cases rx
  cases ry
  refine PyProof.Rows.is_bool (fin_bl I q ?_)
  cases a <;> cases b <;> rfl
theorem op_notB {X : Cx} : OpR X (compareOp .IsNot) rNotB := by
  intro pins s σ H x y v u Q I rx ry h
  obtain ⟨a, b, rfl, rfl, q⟩ := h
  cases rx
  cases ry
  refine PyProof.Rows.isnot_bool (fin_bl I q ?_)
  cases a <;> cases b <;> rfl
theorem os_isB (ra : ma.rd = true := by rfl) (rb : mb.rd = true := by rfl) : OpS C W rIsB dIsB ma mb .fr := by
  intro Γ F H σ ρ L x y dx dy Q r k
  obtain ⟨h1, h2⟩ := r.da2 ra rb
  cases dx with
  | bl a =>
    cases dy with
    | bl b => exact ⟨a, b, h1, h2, k.flat r.tail.tail rfl rfl⟩
    | _ => exact k.elim
  | _ => cases dy <;> exact k.elim
theorem os_notB (ra : ma.rd = true := by rfl) (rb : mb.rd = true := by rfl) : OpS C W rNotB dNotB ma mb .fr := by
  intro Γ F H σ ρ L x y dx dy Q r k
  obtain ⟨h1, h2⟩ := r.da2 ra rb
  cases dx with
  | bl a =>
    cases dy with
    | bl b => exact ⟨a, b, h1, h2, k.flat r.tail.tail rfl rfl⟩
    | _ => exact k.elim
  | _ => cases dy <;> exact k.elim
theorem nioL1 {is : List Nat} {v : V} {m : Md} (h : ∀ i ∈ is, (0 : Nat) ≠ i) : ∀ p ∈ [((0 : Nat), v, m)], ∀ i ∈ is, p.1 ≠ i := fun p hp i hi => by
  rw [List.mem_singleton.mp hp]
  exact h i hi
theorem nio21 {k i j : Nat} {v : V} {m : Md} (h1 : k ≠ i) (h2 : k ≠ j) : ∀ p ∈ [(k, v, m)], p.1 ≠ i ∧ p.1 ≠ j := fun p hp => by
  rw [List.mem_singleton.mp hp]
  exact ⟨h1, h2⟩
/-- an __init__ that lets nothing out -/
theorem fnN0 {P : Program} {w : World} {K : PySem.W.Frag} {mg : Str → Option Value} {base : Heap} {k : Nat} {x qual c : Str} {st : Stmt} {f : Addr} {fd : FuncData} {N ps : List Str} {pm Γl : List Md} {g : GS}
    (Fn : FunD K x qual (defArgs st) (defBody st) (defScope st) [] [] f fd) (S : FnScope N ps (defScope st)) (hp : pm.length + 1 = ps.length) (hN : pm.length + Γl.length + 1 = N.length)
    (hb : ∀ (cdv : Value) (A : Around) (outer : List PySem.Env) (s : Shared) (H : Hp) (E : XK), Room k (A.deeper (envOfC qual (defScope st) s.heap.objs.size f cdv)) →
      ∃ t, PSs (cxOf CX0 P w K mg base N qual (defScope st) f cdv A outer s H E).nox (defBody st) t ∧ ∀ (Bp F0 : Hp) (a : Addr), ∃ Γ', SS ⟨K, mg, Bp, F0, [(0, .ref a, .ob .fr)]⟩ W0 .fr [] (.ob .fr :: (pm ++ Γl)) t g Γ') :
    FnOk P w K mg base CX0 (k + 1) f fd ps (spN K mg X0 c pm (runN c g (pm.length + Γl.length))) := fnN Fn S hp hN fun cdv A outer s H E hr => by
  obtain ⟨t, ht, hs⟩ := hb cdv A outer s H E hr
  exact ⟨t, ht.nox, hs⟩
end
end DL
end

/-! text DG0 -/
section
set_option maxRecDepth 100000
set_option maxHeartbeats 4000000
/-! the law's own def, called by the caller itself: nothing is being shown there, so repr tells the text -/
namespace DL
open PySem PySem.Spec PyProof.Rows L2
/-- a def's promise to the caller alone -/
def FnTop (P : Program) (w : World) (K : PySem.W.Frag) (mg : Str → Option Value) (base : Heap) (CX : CXT) (f : Addr) (fd : FuncData) (ps : List Str) (sp : Sp) : Prop :=
  ∀ (s : Shared) (H : Hp) (args : Args) (us : List Value) (vs : List V) (Q : VK) (E : XK), Env0 P w K mg base callerA [] s H → BindsTo s fd args (ps.zip us) → Vals vs us → vs.length = ps.length → sp vs H Q E → codeAny (model P w) callerA (.call (.ref f) args) (CR CX [] P w H s Q E) s
theorem fn_top {CX : CXT} {P : Program} {w : World} {K : PySem.W.Frag} {mg : Str → Option Value} {base : Heap} {k : Nat} {x qual : Str} {params : Arguments} {body : List Stmt} {scope : Scope} {f : Addr} {fd : FuncData} {N ps : List Str} {sp : Sp}
    (Fn : FunD K x qual params body scope [] [] f fd) (S : FnScope N ps scope) (hr : Room (k + 1) callerA)
    (bd : ∀ (cdv : Value) (s : Shared) (H : Hp) (vs : List V) (Q : VK) (E : XK), Room k (callerA.deeper (envOfC qual scope s.heap.objs.size f cdv)) → sp vs H Q E →
      ∃ t, PSs (cxOf CX P w K mg base N qual scope f cdv callerA [] s H E) body t ∧ t { nx := fun _ H' => Q .non H', rt := Q } (start N vs) H) : FnTop P w K mg base CX f fd ps sp := by
  obtain ⟨oc, od, dV, kV, doc, pm, an, cdv, ct, osl, rfl, lk, hcd, _, _⟩ := Fn.ex
  intro s H args us vs Q E e0 bnd rv ln hsp
  have inn : K.In s.heap := e0.mod.kin.keeps fun b o q => (e0.bs b o q).1
  have nolim : s.heap.NoLimit := e0.mod.nolimit.keeps fun b o q => (e0.bs b o q).1
  have kd : ∀ y ∈ ps.zip us, scope.names.lookup y.1 = some .local ∨ (scope.names.lookup y.1 = some .cell ∧ ((cellsFrom (s.heap.objs.size + 1) scope.names []).lookup y.1).isSome = true) := fun y my => by
    obtain ⟨n, v⟩ := y
    exact (S.par n (List.of_mem_zip my).1).elim .inl fun z => .inr ⟨z, PySem.W.cellsFrom_some _ _ _ (.inl z)⟩
  refine codeAny_call_function hr.depth (inn _ _ lk) rfl S.co S.gen rfl (PySem.W.codeRec_of inn hcd) (bnd _ _ _ _ (wpAny_newFunctionEnv_cells S.kind kd fun env he s1 xc => ?_))
  cases he
  refine ⟨nolim.keeps xc.toInCall.keep, codeAny_func ?_⟩
  obtain ⟨t, ht, hq⟩ := bd cdv s H vs Q E (hr.deeper _) hsp
  have I0 : Inv (cxOf CX P w K mg base N qual scope f cdv callerA [] s H E) [] (start N vs) H s1 := inv_start S hr.hd e0 ln rv xc
  refine wpAny_mono (ht.run [] s1 (start N vs) H _ I0 hq) (fun fl s2 z => ?_) fun _ _ z => z
  cases fl with
  | ret u => obtain ⟨v, σ', H', J, r, q⟩ := z; exact ⟨v, H', J.os, J.bare, J.base, J.hok, r, q⟩
  | next => obtain ⟨σ', H', J, q⟩ := z; exact ⟨.non, H', J.os, J.bare, J.base, J.hok, (rfl : RelV V.non Value.none), q⟩
  | brk => obtain ⟨_, _, _, q⟩ := z; exact q.elim
  | cont => obtain ⟨_, _, _, q⟩ := z; exact q.elim
/-- the call of the law, from a heap of which only the script may be tracked -/
theorem top_from {P : Program} {w : World} {K : PySem.W.Frag} {mg mb : Str → Option Value} {CX : CXT} {fa a : Addr} {fd : FuncData} {x : Str} {sp : Sp} {s : Shared} {vs : List Value} {H : Hp}
    (kin : K.In s.heap) (nsg : s.heap.Ns mainGlobals mg) (nsb : s.heap.Ns builtinsNs mb) (boot : ∀ x : Str, x ≠ "__name__" → mb x = bootBuiltins x) (nl : s.heap.NoLimit) (gs : s.gens = #[])
    (sc : s.heap.get? a = some { cls := .type "list", data := .seq vs.toArray })
    (Fn : ∀ base : Heap, K.In base → base.Ns mainGlobals mg → FnTop P w K mg base CX fa fd [x] sp) (bnd : ∀ (s : Shared) (u : Value), BindsTo s fd ⟨[u], []⟩ [(x, u)])
    (pr : sp [.ref a] H (fun v _ => v = .bl true) fun _ _ _ => False) (no : ∀ H e s', CX [] H s (fun _ _ _ => False) e s' → False)
    (only : Only H) (hok : HOk P w H s.heap) (one : ∀ b, H b ≠ none → b = a) (apart : H a ≠ none → K.lookup a = none) :
    codeAny (model P w) callerA (.call (.ref fa) ⟨[.ref a], []⟩) (fun r s' => r = .ok (.ret (.bool true)) ∧ OldK s.heap s'.heap ∧ s'.os = s.os ∧ AllBare s'.gens) s := by
  have hid : ∀ {b : Addr} {o : Obj}, s.heap.get? b = some o → H b = none → (hidT s.heap H).get? b = some o := fun g n => hidT_get g n
  have dic : ∀ {b : Addr} {o : Obj} {es : Array DictEntry} {ep : Nat}, s.heap.get? b = some o → o.data = .dict es ep → H b = none := fun {b o es ep} g dt => by
    refine Classical.byContradiction fun z => ?_
    rw [one b z] at g
    cases sc.symm.trans g
    exact absurd dt fun z => by cases z
  have spc : ∀ {b : Addr} {m : Str → Option Value}, s.heap.Ns b m → (hidT s.heap H).Ns b m := fun {b m} ⟨o, es, ep, g, dt, r⟩ => ⟨o, es, ep, hid g (dic g dt), dt, r⟩
  have kin2 : K.In (hidT s.heap H) := fun b o g => hid (kin b o g) (Classical.byContradiction fun z => by
    have eb := one b z
    rw [eb] at z g
    rw [apart z] at g
    cases g)
  have md : Mod K mg (hidT s.heap H) := by
    obtain ⟨mc, l1, l2⟩ := nl
    exact ⟨kin2, spc nsg, ⟨mb, spc nsb, boot⟩, ⟨mc, spc l1, l2⟩⟩
  have env : Env0 P w K mg (hidT s.heap H) callerA [] s H := ⟨rfl, md, fun b o g => of_hidT g, Nat.le_of_eq (hidT_size _ _), trivial, fun b z => absurd (show b ∈ ([] : List Addr) from z) (by simp), hok, .of_eq gs⟩
  refine codeAny_mono (Fn _ kin2 (spc nsg) s H ⟨[.ref a], []⟩ [.ref a] [.ref a] _ _ env (bnd s (.ref a)) (.cons rfl .nil) rfl pr) fun r s2 z => ?_
  match r, z with
  | .error e, z => exact (no H e s2 z).elim
  | .ok (.ret u), ⟨v, H2, os, bare, un, hok2, rv, (q : v = .bl true)⟩ =>
    subst q
    have eu : u = Value.bool true := rv
    subst eu
    refine ⟨rfl, OldK.of_keep fun b o g => ?_, os, bare⟩
    cases hb : H b with
    | none => exact un.keep b o g hb (fun z => absurd (show b ∈ ([] : List Addr) from z) (by simp)) (by simp)
    | some u =>
      rcases only b with z | ⟨ob, xs, z⟩
      · rw [hb] at z; cases z
      · have g1 := (hok b _ z).1
        have g2 := (hok2 b _ (un.frzs b ob _ z)).1
        cases g.symm.trans g1
        exact g2
/-- the script's heap -/
def scH (a : Addr) (vs : List Value) (ns : List Int) : Hp := fun b => if b = a then some (.frz { cls := .type "list", data := .seq vs.toArray } (.lst (ns.map V.int))) else none
theorem top_call {P : Program} {w : World} {K : PySem.W.Frag} {mg mb : Str → Option Value} {CX : CXT} {fa a : Addr} {fd : FuncData} {x : Str} {sp : Sp} {s : Shared} {vs : List Value} {ns : List Int}
    (kin : K.In s.heap) (nsg : s.heap.Ns mainGlobals mg) (nsb : s.heap.Ns builtinsNs mb) (boot : ∀ x : Str, x ≠ "__name__" → mb x = bootBuiltins x) (nl : s.heap.NoLimit) (gs : s.gens = #[])
    (sc : s.heap.get? a = some { cls := .type "list", data := .seq vs.toArray }) (itz : IntsAre vs ns) (ln : ns.length ≤ sizeLine)
    (Fn : ∀ base : Heap, K.In base → base.Ns mainGlobals mg → FnTop P w K mg base CX fa fd [x] sp) (bnd : ∀ (s : Shared) (u : Value), BindsTo s fd ⟨[u], []⟩ [(x, u)])
    (pr : ∀ H : Hp, Only H → SqL K H a (ns.map V.int) → sp [.ref a] H (fun v _ => v = .bl true) fun _ _ _ => False) (no : ∀ H e s', CX [] H s (fun _ _ _ => False) e s' → False) :
    codeAny (model P w) callerA (.call (.ref fa) ⟨[.ref a], []⟩) (fun r s' => r = .ok (.ret (.bool true)) ∧ OldK s.heap s'.heap ∧ s'.os = s.os ∧ AllBare s'.gens) s := by
  have rv := vals_ints itz
  have le := itz.length
  cases lk : K.lookup a with
  | some o =>
    have g := kin a o lk
    cases sc.symm.trans g
    have on0 : Only (fun _ => none) := fun _ => .inl rfl
    have sq0 : SqL K (fun _ => none) a (ns.map V.int) := .inr ⟨_, vs.toArray, _, lk, rfl, rfl, rfl, by rw [List.size_toArray, le]; exact ln, by simpa using rv⟩
    exact top_from kin nsg nsb boot nl gs sc Fn bnd (pr _ on0 sq0) no on0 (fun b u z => by cases (show (none : Option HO) = some u from z)) (fun b z => absurd rfl z) fun z => absurd rfl z
  | none =>
    have at1 : scH a vs ns a = some (.frz { cls := .type "list", data := .seq vs.toArray } (.lst (ns.map V.int))) := if_pos rfl
    have at0 : ∀ b, b ≠ a → scH a vs ns b = none := fun b z => if_neg z
    have on1 : Only (scH a vs ns) := fun b => by
      by_cases z : b = a
      · subst z; exact .inr ⟨_, _, at1⟩
      · exact .inl (at0 b z)
    refine top_from kin nsg nsb boot nl gs sc Fn bnd (pr _ on1 (.inl (.inr ⟨_, at1⟩))) no on1 (fun b u z => ?_) (fun b z => Classical.byContradiction fun q => z (at0 b q)) fun _ => lk
    by_cases q : b = a
    · subst q
      cases at1.symm.trans z
      exact ⟨sc, by rw [List.length_map]; exact ln, vs, _, rv, sc⟩
    · rw [at0 b q] at z
      cases z
theorem walk_top {l : PySem.W.OpenLaw} {n : Nat} {q : Program} {loose : List Str} {XP : (Str → Option Value) → Heap → Prop} {YP : World → Heap → Prop} {d : DefRec} {CX : CXT} {x : Str}
    (most : l.most = some n) (fits : n ≤ sizeLine) (nodf : d.params.defaults = [])
    (F : ∀ (w : World) (mg : Str → Option Value) (fa : Addr) (h : Heap), YP w h → h.Ns mainGlobals mg → mg d.name = some (.ref fa) →
      ∃ (K : PySem.W.Frag) (fd : FuncData) (sp : Sp), K.In h ∧ (∀ (s : Shared) (u : Value), BindsTo s fd ⟨[u], []⟩ [(x, u)]) ∧
        (∀ (H : Hp) (a : Addr) (ns : List Int), ns.length ≤ n → Only H → SqL K H a (ns.map V.int) → sp [.ref a] H (fun v _ => v = .bl true) fun _ _ _ => False) ∧ ∀ base : Heap, K.In base → base.Ns mainGlobals mg → FnTop l.prog w K mg base CX fa fd [x] sp)
    (no : ∀ (H : Hp) (s : Shared) (e : Value) (s' : Shared), CX [] H s (fun _ _ _ => False) e s' → False) :
    PySem.W.WalkO q loose XP YP l.row.toRowW d [] (fun f vs => PySem.call f vs) := by
  refine Att.attach_call most nodf fun w s₀ s₁ mg mb fa o pm cd doc a vs ns G Y ho hd hcd gm sc itz len gs => ?_
  obtain ⟨K, fd, sp, kin, bnd, prm, Fn⟩ := F w mg fa _ Y G.T.g gm
  exact top_call kin G.T.g G.T.b G.T.builtins G.T.nolimit gs sc itz (Nat.le_trans len fits) Fn bnd (fun H a1 a2 => prm H a ns len a1 a2) fun H e s' => no H s₁ e s'
/-- THE RULE of the law's def, walked with the caller's eyes -/
theorem fnTop {P : Program} {w : World} {K : PySem.W.Frag} {mg : Str → Option Value} {base : Heap} {k : Nat} {x qual : Str} {st : Stmt} {f : Addr} {fd : FuncData} {N ps : List Str} {pm Γl : List Md} {mr : Md} {g : GS}
    (Fn : FunD K x qual (defArgs st) (defBody st) (defScope st) [] [] f fd) (S : FnScope N ps (defScope st)) (hr : Room (k + 1) callerA) (hN : pm.length + Γl.length = N.length) (qr : mr.rd = true)
    (hb : ∀ (cdv : Value) (A : Around) (outer : List PySem.Env) (s : Shared) (H : Hp) (E : XK), A.guards = some [] → Room k (A.deeper (envOfC qual (defScope st) s.heap.objs.size f cdv)) →
      ∃ t, PSs (cxOf CX0 P w K mg base N qual (defScope st) f cdv A outer s H E).nox (defBody st) t ∧ ∀ (Bp F0 : Hp), ∃ Γ', SS ⟨K, mg, Bp, F0, []⟩ W0 mr [] (pm ++ Γl) t g Γ') :
    FnTop P w K mg base CX0 f fd ps (spD K mg X0 pm mr (runB g N.length)) := by
  refine fn_top Fn S hr fun cdv s H vs Q E hr2 h => ?_
  obtain ⟨F, ds, h1, h2, h3⟩ := h
  obtain ⟨t, ht, hs⟩ := hb cdv callerA [] s H E rfl hr2
  obtain ⟨l1, l2⟩ := h2.len
  obtain ⟨Γ', hs⟩ := hs H F
  refine ⟨t, ht.nox, hs F H (start N vs) (startD N.length ds) [] _ rfl ?_ ?_⟩
  · refine ⟨h1, fun p hp => (by cases hp), [], [], List.nodup_nil, ?_, rfl⟩
    unfold L2.start startD
    rw [l1, l2, show N.length - pm.length = Γl.length by omega]
    exact slots_start Γl h2
  · unfold runB at h3
    revert h3
    cases g (startD N.length ds) with
    | nx ρ' => exact fun h3 F1 H1 σ1 s1 r1 => h3 F1 H1 .non [] s1 r1.fit (At.flat qr rfl) List.nodup_nil
    | rt d ρ' =>
      intro h3 F1 H1 Γr σ1 L1 v s1 r1
      obtain ⟨f1, f2, nd, a, g1, g2, e1, e2, e3⟩ := r1.own
      subst e1
      exact h3 F1 H1 v g1 s1 r1.fit e2 (nd.sublist (List.Sublist.trans (List.sublist_append_left _ _) (List.sublist_append_right _ _)))
    | bk ρ' => exact fun h => h.elim
    | ct ρ' => exact fun h => h.elim
    | ex c d => exact fun h3 F1 H1 s1 f1 => h3 F1 H1 s1 f1
    | stuck => exact fun h => h
/-! ### repr -/
def rRepr (K : PySem.W.Frag) : RA := fun xs H Q => ∃ (a : Addr) (d : PyData), xs = [.ref a] ∧ Dp K H (.ref a) d ∧ d.showable = true ∧ d.hasDict = false ∧ d.depth ≤ 20 ∧ d.shown.length ≤ sizeLine ∧ Q (.str d.shown) H
theorem cr_repr {X : Cx} (hg : X.A.guards = some []) (hu : X.A.units + 65 < cLine) : CallR X (.builtin "repr") (rRepr X.K) := by
  intro pins s σ H xs us Q I r h
  obtain ⟨a, d, rfl, hd, h1, h2, h3, h4, q⟩ := h
  obtain ⟨u, rfl, ru⟩ := vals1 r
  obtain ⟨as, rd⟩ := Dp.reads I d _ u hd ru
  obtain rfl : u = Value.ref a := ru
  exact repr_of_reads' rd h1 (PyData.noDict_hsm h2) hg (by omega) (fun _ _ e => e) (fun h' t tk hk => ⟨.str d.shown, H, I.kept (t' := tk) hk, ⟨_, rfl⟩, q⟩) h4
theorem kx_repr {X : Cx} {K : PySem.W.Frag} (h : X.K = K) (hg : X.A.guards = some []) (hu : X.A.units + 65 < cLine) : CallR X (.builtin "repr") (rRepr K) := by subst h; exact cr_repr hg hu
def isSq : DV → Bool
  | .tup _ => true
  | .lst _ => true
  | _ => false
def dRepr : OpA
  | [d] => if ((isSq d && eqok d 20) && ((py d).showable && decide ((py d).shown.length ≤ sizeLine))) = true then .ok (.str (py d).shown) else .stuck
  | _ => .stuck
theorem cs_repr {C : Cxt} {W : Wx} {m : Md} (q : m.rd = true := by rfl) : CallS C W (rRepr C.K) dRepr [m] .fr := call1 fun Γ F H σ ρ L x dx Q r k => by
  have k : PE' C W Γ F H σ ρ L .fr Q (if ((isSq dx && eqok dx 20) && ((py dx).showable && decide ((py dx).shown.length ≤ sizeLine))) = true then .ok (.str (py dx).shown) else .stuck) := k
  split at k
  · rename_i hz
    simp only [Bool.and_eq_true] at hz
    obtain ⟨⟨z1, z2⟩, z3, z4⟩ := hz
    have da := r.da q
    obtain ⟨e1, e2⟩ := eqok_ok dx 20 z2
    have dp := da_dp dx 20 x z2 da
    have hx : ∃ a, x = .ref a := by
      cases dx with
      | tup ds => obtain ⟨a, vs, h1, _⟩ := da; exact ⟨a, h1⟩
      | lst ds => obtain ⟨a, vs, h1, _⟩ := da; exact ⟨a, h1⟩
      | _ => cases z1
    obtain ⟨a, rfl⟩ := hx
    exact ⟨a, py dx, rfl, dp, z3, PyData.hasDict_of_canLay _ e1, e2, of_decide_eq_true z4, k.flat r.tail rfl rfl⟩
  · exact k.elim
end DL
end

/-! text DO2 -/
section
set_option maxRecDepth 100000
set_option maxHeartbeats 4000000
/-! an owned pair unpacked; append to a list that nobody names -/
namespace DL
open PySem PySem.Spec PyProof.Rows L2
section
variable {C : Cxt} {W : Wx} {F F' H H' : Hp} {Γ Γb Γ' : List Md} {σ : L2.St} {ρ : EnvD} {L : List Ent} {m ma mb mr : Md} {d : DV} {v : V} {Dn : Ends}
theorem Rep.untup2 {x y : DV} (r : Rep C F H Γ σ ρ ((.tu m, .tup [x, y], v) :: L)) : ∃ a vx vy, v = .ref a ∧ SqT C.K H a [vx, vy] ∧ Rep C F H Γ σ ρ ((m, y, vy) :: (m, x, vx) :: L) := by
  obtain ⟨f1, f2, nd, a, g1, g2, h1, h2, h3⟩ := r.own
  unfold At at h2
  rw [if_pos (show isTup (.tup [x, y]) = true from rfl)] at h2
  obtain ⟨p, vs, e1, e2, e3⟩ := h2
  obtain ⟨vx, r1, fx, fr, k1, k2, k3, k4⟩ := e3
  obtain ⟨vy, r2, fy, fe, j1, j2, j3, j4⟩ := k4
  obtain ⟨i1, i2⟩ := j4
  subst i1
  subst i2
  subst j1
  subst k1
  subst j2
  subst k2
  subst h1
  refine ⟨p, vx, vy, e1, same_sqt r.fit.fh e2, r.fit, r.io, f1, fy ++ (fx ++ g2), ?_, a, fy, fx ++ g2, rfl, j3, fx, g2, rfl, k3, h3⟩
  refine List.Perm.nodup (List.perm_iff_count.mpr fun b => ?_) nd
  simp only [List.count_append, List.append_nil]
  omega
def gtUp (i j : Nat) : GG := fun d ρ => match d with
  | .tup [x, y] => if (DL.flat x).isSome = true then .ok ((ρ.set i (some x)).set j (some y)) else .stuck
  | _ => .stuck
theorem nx_up {i j : Nat} : ∀ d ρ c e, gtUp i j d ρ ≠ .ex c e := fun d ρ c e h => by
  unfold gtUp at h
  split at h
  · split at h <;> cases h
  · cases h
theorem sn_up {i j : Nat} (hi : Γ[i]? = some .fr) (hj : Γ[j]? = some m) (hio : ∀ p ∈ C.io, ∀ k ∈ [i, j], p.1 ≠ k) (q : m.rd = true := by rfl) : SN C Γ (L2.gTup C.K 2 (L2.gCons (L2.gName i) (L2.gCons (L2.gName j) L2.gNil))) (gtUp i j) (.tu m) [i, j] := by
  intro F H σ ρ L d v ρ' Q r h k
  unfold gtUp at h
  split at h
  · rename_i x y
    split at h
    · rename_i hz
      cases h
      obtain ⟨w, hw⟩ := Option.isSome_iff_exists.mp hz
      obtain ⟨a, vx, vy, e1, e2, r1⟩ := r.untup2
      have r2 : Rep C F H Γ σ ρ ((.fr, x, vx) :: (m, y, vy) :: L) := r1.swap.turn fun f hf => ⟨[], List.nil_sublist _, by
        have e := da_flat hw (r1.swap.da q)
        subst e
        exact At.flat rfl hw⟩
      have li : i < Γ.length := (List.getElem?_eq_some_iff.mp hi).1
      have lj : j < Γ.length := (List.getElem?_eq_some_iff.mp hj).1
      have r3 := r2.put li fun p hp => hio p hp i List.mem_cons_self
      rw [set_id hi] at r3
      have r4 := r3.put lj fun p hp => hio p hp j (List.mem_cons_of_mem _ List.mem_cons_self)
      rw [set_id hj] at r4
      refine ⟨a, [vx, vy], e1, e2, rfl, vx, [vy], rfl, vy, [], rfl, rfl, k _ (fun us hu => ?_) r4⟩
      rw [wipe_set _ j _ us (hu j (List.mem_cons_of_mem _ List.mem_cons_self)), wipe_set _ i _ us (hu i List.mem_cons_self)]
    · cases h
  · cases h
/-! ### e.append(x), e a new list -/
def gAppT (ge gx : GE) : GX := fun ρ => (ge ρ).bind fun d => match d with
  | .lst ds => (gx ρ).bind fun _ => if ds.length < sizeLine then .ok (.non, ρ) else .stuck
  | _ => .stuck
theorem sx_appT {te tx : TE} {ge gx : GE} (he : SE C W Γ te ge (.own m)) (hx : SE C W Γ tx gx m) (hΓ : Γ.all Md.stor = true) (qm : m.stor = true := by rfl) : SX C W Γ (tBM C.K "list" rAppend te (tCons tx tNil)) (gAppT ge gx) .fr := by
  intro F H σ ρ L Q hs r k
  show te σ H fun v H1 => tyV C.K "list" v H1 ∧ tx σ H1 fun y H2 => rAppend v [y] H2 Q
  refine he F H σ ρ L _ hs.ok r ?_
  unfold gAppT at k
  revert k
  cases ge ρ with
  | ex c d => exact fun k F1 H1 s1 s2 f => k F1 H1 s1 f
  | stuck => exact fun k => k
  | ok d =>
    cases d with
    | lst ds =>
      intro k F1 H1 v s1 s2 r1
      have k : PX' C W Γ F H σ L .fr Q ((gx ρ).bind fun _ => if ds.length < sizeLine then .ok (.non, ρ) else .stuck) := k
      obtain ⟨f, hf⟩ := r1.head
      unfold At at hf
      rw [if_pos (show isLD (.lst ds) = true from rfl)] at hf
      obtain ⟨a, ws, o, fc, rfl, _, _, hH, hN, _, _⟩ := hf
      obtain rfl : o = .lst ws := hN
      refine ⟨.inl ⟨rfl, ws, .inl (.inl hH)⟩, ?_⟩
      refine hx F1 H1 σ ρ _ _ (storL_cons qm hs).ok r1 ?_
      revert k
      cases gx ρ with
      | ex c d => exact fun k F2 H2 s3 s4 f => k F2 H2 (s1.trans s3) f
      | stuck => exact fun k => k
      | ok dx =>
        intro k F2 H2 y s3 s4 r2
        have k : PX' C W Γ F H σ L .fr Q (if ds.length < sizeLine then .ok (.non, ρ) else .stuck) := k
        split at k
        · rename_i hz
          obtain ⟨p, vs, z1, z2, z3, z4, z5, z6⟩ := r2.push hΓ qm
          cases z1
          refine ⟨a, vs, y, rfl, rfl, z2, by rw [← z3]; exact hz, ?_⟩
          exact k F2 _ .non (s1.trans s3) ((z6 (Safe.of hs)).tail.cons0 ⟨rfl, rfl⟩)
        · exact k.elim
    | _ => exact fun k => k.elim
theorem kx_fld {X : Cx} {K : PySem.W.Frag} {e : Expr} {f : Str} {pos : Pos} {ta : TE} (h : X.K = K) (he : PE X e ta) (hb : attributeBase e f X.env (eval e X.env) = eval e X.env) : PE X (.Attribute e f pos) (tFld K ta f) := by
  subst h
  exact pe_fld he hb
end
end DL
end

/-! text DM0 -/
section
set_option maxRecDepth 100000
set_option maxHeartbeats 4000000
/-! changes in place below a name: at a path of constants, and through the name of a loop -/
namespace DL
open PySem PySem.Spec PyProof.Rows L2
section
variable {C : Cxt} {W : Wx} {F F' H H' : Hp} {Γ Γb Γ' : List Md} {σ : L2.St} {ρ : EnvD} {L : List Ent} {m ma mb mr M : Md} {d : DV} {v : V} {Dn : Ends} {i j : Nat} {t tb : TS} {f : DV → Rs DV}
abbrev SV := V → Hp → (Hp → Prop) → Prop
/-- a change in place of the value v, at one list node that it owns -/
def MutV (C : Cxt) (M : Md) (f : DV → Rs DV) (s : SV) : Prop :=
  ∀ F H d v fp d' Q, Fit C F H → At C F H M d v fp → fp.Nodup → f d = .ok d' →
    (∀ p ws fp', p ∈ fp → fp'.Sublist fp → At C F (L2.upd H p (.lst ws)) M d' v fp' → Q (L2.upd H p (.lst ws))) → s v H Q
theorem Alls.focus {R : DV → V → List Addr → Prop} {x : DV} : ∀ {ds : List DV} {vs : List V} {fp : List Addr} {j : Nat}, Alls R ds vs fp → ds[j]? = some x →
    ∃ w f1 fj f2, vs[j]? = some w ∧ fp = f1 ++ (fj ++ f2) ∧ R x w fj ∧ ∀ (R' : DV → V → List Addr → Prop) y g, (∀ d v f, (∀ a ∈ f, a ∈ f1 ++ f2) → R d v f → R' d v f) → R' y w g → Alls R' (ds.set j y) vs (f1 ++ (g ++ f2))
  | [], _, _, j, _, e => by simp at e
  | d :: ds, _, _, 0, ⟨w, r, f1, f2, h1, h2, h3, h4⟩, e => by
    subst h1
    simp at e
    subst e
    refine ⟨w, [], f1, f2, rfl, h2, h3, fun R' y g k hy => ⟨w, r, g, f2, rfl, rfl, hy, h4.imp fun d v f hf x => k d v f (fun a ha => ?_) x⟩⟩
    exact hf a ha
  | d :: ds, _, _, j + 1, ⟨w, r, f1, f2, h1, h2, h3, h4⟩, e => by
    subst h1
    obtain ⟨u, g1, gj, g2, e1, e2, e3, e4⟩ := Alls.focus h4 (j := j) (by simpa using e)
    refine ⟨u, f1 ++ g1, gj, g2, by simpa using e1, by rw [h2, e2, List.append_assoc], e3, fun R' y g k hy => ⟨w, r, f1, g1 ++ (g ++ g2), rfl, by rw [List.append_assoc], k d w f1 (fun a ha => ?_) h3, e4 R' y g (fun d v f hf x => k d v f (fun a ha => ?_) x) hy⟩⟩
    · rw [List.append_assoc]; exact List.mem_append_left _ ha
    · rw [List.append_assoc]; exact List.mem_append_right _ (hf a ha)
theorem At.upd {p : Addr} {o : HO} {f : List Addr} (q : m.stor = true) (h : At C F H m d v f) (k : ∀ a ∈ f, a ≠ p) : At C F (L2.upd H p o) m d v f := h.mono (Same.refl _) (fun z hz => (h.owned z hz).1) (fun z hz => upd_ne (k z hz)) (.inl q)
/-! ### at the node itself -/
def sApp (K : PySem.W.Frag) (w : V) : SV := fun v H Q => tyV K "list" v H ∧ rAppend v [w] H fun _ H' => Q H'
def fApp (c : DV) (d : DV) : Rs DV := match d with
  | .lst ds => if ds.length < sizeLine then .ok (.lst (ds ++ [c])) else .stuck
  | _ => .stuck
theorem mut_app {c : DV} {w : V} (hc : flat c = some w) (qm : m.stor = true := by rfl) (qr : m.rd = true := by rfl) : MutV C (.own m) (fApp c) (sApp C.K w) := by
  intro F H d v fp d' Q fit h nd e k
  cases d with
  | lst ds =>
    have e : (if ds.length < sizeLine then (Rs.ok (DV.lst (ds ++ [c])) : Rs DV) else .stuck) = .ok d' := e
    split at e
    · rename_i hz
      cases e
      unfold At at h
      rw [if_pos (show isLD (.lst ds) = true from rfl)] at h
      obtain ⟨a, vs, o, fc, rfl, h2, h3, h4, h5, rfl, h7⟩ := h
      obtain rfl : o = .lst vs := h5
      refine ⟨.inl ⟨rfl, vs, .inl (.inl h4)⟩, a, vs, w, rfl, rfl, h4, by rw [← h7.length]; exact hz, ?_⟩
      have np := List.nodup_cons.mp nd
      refine k a (vs ++ [w]) (a :: fc) List.mem_cons_self (List.Sublist.refl _) ?_
      unfold At
      rw [if_pos (show isLD (.lst (ds ++ [c])) = true from rfl)]
      refine ⟨a, vs ++ [w], _, fc, rfl, h2, h3, upd_same, rfl, rfl, ?_⟩
      have e8 := (h7.imp (R' := At C F (L2.upd H a (.lst (vs ++ [w]))) m) fun d v f hf x => x.upd qm fun z hz e => np.1 (e ▸ hf z hz)).append (Alls.one (At.flat (F := F) (H := L2.upd H a (.lst (vs ++ [w]))) (C := C) qr hc))
      rw [List.append_nil] at e8
      exact e8
    · cases e
  | _ => cases e
def sSet (k : Int) (w : V) : SV := fun v H Q => rSetL v (.int k) w H Q
theorem mut_set {k : Int} {c : DV} {w : V} (hc : flat c = some w) (qm : m.stor = true := by rfl) (qr : m.rd = true := by rfl) : MutV C (.own m) (fun d => setD d (.int k) c) (sSet k w) := by
  intro F H d v fp d' Q fit h nd e kk
  cases d with
  | lst ds =>
    have e : (match ixN ds.length k with | some j => (Rs.ok (DV.lst (ds.set j c)) : Rs DV) | none => .stuck) = .ok d' := e
    cases ej : ixN ds.length k with
    | none => rw [ej] at e; cases e
    | some j =>
      rw [ej] at e
      cases e
      unfold At at h
      rw [if_pos (show isLD (.lst ds) = true from rfl)] at h
      obtain ⟨a, vs, o, fc, rfl, h2, h3, h4, h5, rfl, h7⟩ := h
      obtain rfl : o = .lst vs := h5
      refine ⟨a, vs, k, j, rfl, rfl, h4, by rw [← h7.length]; exact ej, ?_⟩
      have np := List.nodup_cons.mp nd
      have e8 := h7.imp (R' := At C F (L2.upd H a (.lst (vs.set j w))) m) fun d v f hf x => x.upd qm fun z hz e => np.1 (e ▸ hf z hz)
      obtain ⟨x, y, z, i1, i2⟩ := Alls.put (At.flat (F := F) (H := L2.upd H a (.lst (vs.set j w))) (C := C) qr hc) e8 (ixN_lt ej)
      refine kk a (vs.set j w) (a :: (x ++ ([] ++ z))) List.mem_cons_self ?_ ?_
      · rw [i1]
        exact List.Sublist.cons₂ a (List.Sublist.append (List.Sublist.refl _) (List.Sublist.append (List.nil_sublist _) (List.Sublist.refl _)))
      · unfold At
        rw [if_pos (show isLD (.lst (ds.set j c)) = true from rfl)]
        exact ⟨a, vs.set j w, _, _, rfl, h2, h3, upd_same, rfl, rfl, i2⟩
  | _ => cases e
/-! ### below -/
def sIx (K : PySem.W.Frag) (k : Int) (s : SV) : SV := fun v H Q => rIxX K v (.int k) H fun w H1 => s w H1 Q
def fLst (k : Int) (f : DV → Rs DV) (d : DV) : Rs DV := match d with
  | .lst ds => (match ixN ds.length k with
    | some j => (match ds[j]? with
      | some x => (f x).bind fun y => .ok (.lst (ds.set j y))
      | none => .stuck)
    | none => .stuck)
  | _ => .stuck
def fTup (k : Int) (f : DV → Rs DV) (d : DV) : Rs DV := match d with
  | .tup ds => (match ixN ds.length k with
    | some j => (match ds[j]? with
      | some x => (f x).bind fun y => .ok (.tup (ds.set j y))
      | none => .stuck)
    | none => .stuck)
  | _ => .stuck
theorem fLst_ok {k : Int} {ds : List DV} {d' : DV} (h : fLst k f (DV.lst ds) = .ok d') : ∃ j x y, ixN ds.length k = some j ∧ ds[j]? = some x ∧ f x = .ok y ∧ d' = DV.lst (ds.set j y) := by
  have h : (match ixN ds.length k with | some j => (match ds[j]? with | some x => (f x).bind fun y => (Rs.ok (DV.lst (ds.set j y)) : Rs DV) | none => .stuck) | none => .stuck) = .ok d' := h
  cases ej : ixN ds.length k with
  | none => rw [ej] at h; cases h
  | some j =>
    rw [ej] at h
    have h : (match ds[j]? with | some x => (f x).bind fun y => (Rs.ok (DV.lst (ds.set j y)) : Rs DV) | none => .stuck) = .ok d' := h
    cases ex : ds[j]? with
    | none => rw [ex] at h; cases h
    | some x =>
      rw [ex] at h
      obtain ⟨y, e1, e2⟩ := bind_ok h
      cases e2
      exact ⟨j, x, y, rfl, ex, e1, rfl⟩
theorem fTup_ok {k : Int} {ds : List DV} {d' : DV} (h : fTup k f (DV.tup ds) = .ok d') : ∃ j x y, ixN ds.length k = some j ∧ ds[j]? = some x ∧ f x = .ok y ∧ d' = DV.tup (ds.set j y) := by
  have h : (match ixN ds.length k with | some j => (match ds[j]? with | some x => (f x).bind fun y => (Rs.ok (DV.tup (ds.set j y)) : Rs DV) | none => .stuck) | none => .stuck) = .ok d' := h
  cases ej : ixN ds.length k with
  | none => rw [ej] at h; cases h
  | some j =>
    rw [ej] at h
    have h : (match ds[j]? with | some x => (f x).bind fun y => (Rs.ok (DV.tup (ds.set j y)) : Rs DV) | none => .stuck) = .ok d' := h
    cases ex : ds[j]? with
    | none => rw [ex] at h; cases h
    | some x =>
      rw [ex] at h
      obtain ⟨y, e1, e2⟩ := bind_ok h
      cases e2
      exact ⟨j, x, y, rfl, ex, e1, rfl⟩
theorem atI_of {α : Type} {xs : List α} {k : Int} {j n : Nat} {x : α} (h : ixN n k = some j) (hn : xs.length = n) (e : xs[j]? = some x) : L2.atI xs k = some x := by
  subst hn
  unfold L2.atI
  rw [h]
  exact e
theorem mutK {s : SV} {fc : List Addr} {ds : List DV} {vs : List V} {n : Nat} {x y : DV} {w : V} {Q : Hp → Prop} (h : MutV C m f s) (qm : m.stor = true) (fit : Fit C F H) (ha : Alls (At C F H m) ds vs fc) (nd : fc.Nodup) (ex : ds[n]? = some x) (ey : f x = .ok y) (ew : vs[n]? = some w)
    (k : ∀ p ws fp', p ∈ fc → fp'.Sublist fc → Alls (At C F (L2.upd H p (.lst ws)) m) (ds.set n y) vs fp' → Q (L2.upd H p (.lst ws))) : s w H Q := by
  obtain ⟨u, f1, fj, f2, e1, e2, e3, e4⟩ := Alls.focus ha ex
  rw [ew] at e1
  cases e1
  subst e2
  have np := List.nodup_append.mp nd
  have np2 := List.nodup_append.mp np.2.1
  refine h F H x w fj y Q fit e3 np2.1 ey fun p ws fp' hp hs hA => ?_
  refine k p ws (f1 ++ (fp' ++ f2)) (List.mem_append_right _ (List.mem_append_left _ hp)) (List.Sublist.append (List.Sublist.refl _) (List.Sublist.append hs (List.Sublist.refl _))) (e4 _ y fp' (fun d v f hf x => x.upd qm fun z hz e => ?_) hA)
  subst e
  rcases List.mem_append.mp (hf z hz) with q | q
  · exact np.2.2 z q z (List.mem_append_left _ hp) rfl
  · exact np2.2.2 z hp z q rfl
theorem mut_tu {k : Int} {s : SV} (h : MutV C m f s) (q : m.stor = true := by rfl) : MutV C (.tu m) (fTup k f) (sIx C.K k s) := by
  intro F H d v fp d' Q fit hA nd e kk
  cases d with
  | tup ds =>
    obtain ⟨j, x, y, e1, e2, e3, rfl⟩ := fTup_ok e
    unfold At at hA
    rw [if_pos (show isTup (.tup ds) = true from rfl)] at hA
    obtain ⟨a, vs, rfl, h2, h3⟩ := hA
    obtain ⟨w, _, _, _, ew, _, _, _⟩ := Alls.focus h3 e2
    refine .inr ⟨a, vs, k, w, rfl, rfl, same_sqt fit.fh h2, atI_of e1 h3.length.symm ew, ?_⟩
    refine mutK h q fit h3 nd e2 e3 ew fun p ws fp' hp hs hB => kk p ws fp' hp hs ?_
    unfold At
    rw [if_pos (show isTup (.tup (ds.set j y)) = true from rfl)]
    exact ⟨a, vs, rfl, h2, hB⟩
  | _ => cases e
theorem mut_own {k : Int} {s : SV} (h : MutV C m f s) (q : m.stor = true := by rfl) : MutV C (.own m) (fLst k f) (sIx C.K k s) := by
  intro F H d v fp d' Q fit hA nd e kk
  cases d with
  | lst ds =>
    obtain ⟨j, x, y, e1, e2, e3, rfl⟩ := fLst_ok e
    unfold At at hA
    rw [if_pos (show isLD (.lst ds) = true from rfl)] at hA
    obtain ⟨a, vs, o, fc, rfl, h2, h3, h4, h5, rfl, h7⟩ := hA
    obtain rfl : o = .lst vs := h5
    obtain ⟨w, _, _, _, ew, _, _, _⟩ := Alls.focus h7 e2
    have np := List.nodup_cons.mp nd
    refine .inl ⟨a, vs, k, w, rfl, rfl, .inl (.inl h4), atI_of e1 h7.length.symm ew, ?_⟩
    refine mutK h q fit h7 np.2 e2 e3 ew fun p ws fp' hp hs hB => kk p ws (a :: fp') (List.mem_cons_of_mem _ hp) (List.Sublist.cons₂ a hs) ?_
    unfold At
    rw [if_pos (show isLD (.lst (ds.set j y)) = true from rfl)]
    have hpa : a ≠ p := fun z => np.1 (z ▸ hp)
    exact ⟨a, vs, _, fp', rfl, h2, h3, by rw [upd_ne hpa]; exact h4, rfl, rfl, hB⟩
  | _ => cases e
/-! ### the environment behind it -/
theorem Rep.change (r : Rep C F H Γ σ ρ ((M, d, v) :: L)) (hΓ : Γ.all Md.stor = true) (hs : storL L) : ∃ fp, fp.Nodup ∧ At C F H M d v fp ∧ ∀ p ws d' fp', p ∈ fp → fp'.Sublist fp → At C F (L2.upd H p (.lst ws)) M d' v fp' → Rep C F (L2.upd H p (.lst ws)) Γ σ ρ ((M, d', v) :: L) := by
  obtain ⟨f1, f2, nd, a, g1, g2, h1, h2, h3⟩ := r.own
  subst h1
  have np := List.nodup_append.mp nd
  have np2 := List.nodup_append.mp np.2.1
  refine ⟨g1, np2.1, h2, fun p ws d' fp' hp hq hA => ?_⟩
  have op := h2.owned p hp
  have nm : ∀ x u, L2.upd H p (.lst ws) x = some u → tupO u = true → H x = some u := fun x u e t => by
    by_cases z : x = p
    · subst z; rw [upd_same] at e; cases e; cases t
    · rw [upd_ne z] at e; exact e
  have lq : ∀ x u, x ≠ p → H x = some u → L2.upd H p (.lst ws) x = some u := fun x u z e => by rw [upd_ne z]; exact e
  have fit : Fit C F (L2.upd H p (.lst ws)) := ⟨r.fit.ff, fun x u e => lq x u (fun z => by rw [z, op.1] at e; cases e) (r.fit.fh _ _ e), fun x u e => lq x u (fun z => by rw [z, op.2.1] at e; cases e) (r.fit.bh _ _ e), r.fit.f0, fun x u e t => r.fit.tp x u (nm x u e t) t⟩
  have o1 := a.owned
  have o4 := h3.owned
  have n1 : ∀ x ∈ f1, x ≠ p := fun x hx e => np.2.2 x hx p (List.mem_append_left _ hp) e
  have n4 : ∀ x ∈ g2, x ≠ p := fun x hx e => np2.2.2 p hp x hx e.symm
  refine ⟨fit, r.io, f1, fp' ++ g2, ?_, a.mono (Same.refl _) (fun x hx => (o1 x hx).1) (fun x hx => upd_ne (n1 x hx)) (.inl hΓ), fp', g2, rfl, hA, h3.safe (Safe.of hs) (fun x hx => (o4 x hx).1) n4⟩
  exact nd.sublist (List.Sublist.append (List.Sublist.refl _) (List.Sublist.append hq (List.Sublist.refl _)))
def gMut (i : Nat) (f : DV → Rs DV) : GS := fun ρ => match lk ρ i with
  | .ok d => (match f d with
    | .ok d' => .nx (ρ.set i (some d'))
    | _ => .stuck)
  | _ => .stuck
theorem ss_mut {s : SV} (hi : Γ[i]? = some M) (h : MutV C M f s) (ht : ∀ (Dn : Ends) σ H v, σ[i]? = some (some v) → s v H (fun H' => Dn.nx σ H') → t Dn σ H) (hΓ : Γ.all Md.stor = true := by rfl) : SS C W mr Γb Γ t (gMut i f) Γ := by
  intro F H σ ρ L Dn hs r k
  unfold gMut at k
  rcases lk_cases ρ i with ⟨d, g2, g3⟩ | g3
  · rw [g3] at k
    have k : PS' C W mr Γb Γ F H L Dn (match f d with | .ok d' => .nx (ρ.set i (some d')) | _ => .stuck) := k
    cases e : f d with
    | ok d' =>
      rw [e] at k
      have k : PS' C W mr Γb Γ F H L Dn (.nx (ρ.set i (some d'))) := k
      obtain ⟨v, h1, r1⟩ := r.take hi g2
      obtain ⟨fp, nd, hA, ch⟩ := r1.change hΓ hs
      refine ht Dn σ H v h1 (h F H d v fp d' _ r.fit hA nd e fun p ws fp' hp hq hB => ?_)
      have r3 := (ch p ws d' fp' hp hq hB).back h1 (.inl hi)
      rw [set_set', set_id hi] at r3
      exact k F _ σ (Same.refl _) r3
    | ex c x => rw [e] at k; exact k.elim
    | stuck => rw [e] at k; exact k.elim
  · rw [g3] at k
    exact k.elim
theorem Rep.name {i : Nat} (r : Rep C F H Γ σ ρ L) (s : Option V) (hio : ∀ p ∈ C.io, p.1 ≠ i) : Rep C F H Γ (σ.set i s) (ρ.set i none) L := by
  obtain ⟨f1, f2, nd, a, b⟩ := r.own
  obtain ⟨x, y, z, h1, h2⟩ := a.drop (i := i) s
  subst h1
  refine ⟨r.fit, fun p hp => ⟨by rw [List.getElem?_set_ne (Ne.symm (hio p hp))]; exact (r.io p hp).1, (r.io p hp).2⟩, x ++ z, f2, ?_, h2, b⟩
  refine nd.sublist (List.Sublist.append (List.Sublist.append (List.Sublist.refl _) (List.sublist_append_right _ _)) (List.Sublist.refl _))
/-! ### for y in xs: y changed in place -/
def mapR (f : DV → Rs DV) : List DV → Rs (List DV)
  | [] => .ok []
  | d :: ds => (f d).bind fun x => (mapR f ds).bind fun r => .ok (x :: r)
def gForM (i j : Nat) (f : DV → Rs DV) : GS := fun ρ => match lk ρ i with
  | .ok (.lst ds) => (match mapR f ds with
    | .ok es => .nx ((ρ.set j none).set i (some (.lst es)))
    | _ => .stuck)
  | _ => .stuck
theorem mapR_get : ∀ {ds es : List DV} {n : Nat} {d : DV}, mapR f ds = .ok es → ds[n]? = some d → ∃ y, f d = .ok y ∧ es[n]? = some y
  | [], _, n, _, _, e => by simp at e
  | d :: ds, es, n, x, h, e => by
    unfold mapR at h
    obtain ⟨y, e1, h⟩ := bind_ok h
    obtain ⟨r, e2, h⟩ := bind_ok h
    cases h
    cases n with
    | zero => simp at e; subst e; exact ⟨y, e1, rfl⟩
    | succ n =>
      obtain ⟨z, e3, e4⟩ := mapR_get e2 (n := n) (by simpa using e)
      exact ⟨z, e3, by simpa using e4⟩
theorem mapR_len : ∀ {ds es : List DV}, mapR f ds = .ok es → es.length = ds.length
  | [], es, h => by cases h; rfl
  | d :: ds, es, h => by
    unfold mapR at h
    obtain ⟨y, e1, h⟩ := bind_ok h
    obtain ⟨r, e2, h⟩ := bind_ok h
    cases h
    rw [List.length_cons, List.length_cons, mapR_len e2]
theorem step_tk {ds es : List DV} {n : Nat} {y : DV} (hl : es.length = ds.length) (e : es[n]? = some y) : (es.take n ++ ds.drop n).set n y = es.take (n + 1) ++ ds.drop (n + 1) := by
  have hn := (List.getElem?_eq_some_iff.mp e).1
  refine List.ext_getElem? fun k => ?_
  rw [List.getElem?_set]
  split
  · rename_i h
    subst h
    rw [if_pos (by rw [List.length_append, List.length_take, List.length_drop]; omega), List.getElem?_append_left (by rw [List.length_take]; omega), List.getElem?_take, if_pos (by omega), e]
  · rename_i h
    by_cases hk : k < n
    · rw [List.getElem?_append_left (by rw [List.length_take]; omega), List.getElem?_append_left (by rw [List.length_take]; omega), List.getElem?_take, List.getElem?_take, if_pos hk, if_pos (by omega)]
    · rw [List.getElem?_append_right (by rw [List.length_take]; omega), List.getElem?_append_right (by rw [List.length_take]; omega), List.getElem?_drop, List.getElem?_drop, List.length_take, List.length_take]
      congr 1
      omega
theorem ss_forM {s : SV} (hi : Γ[i]? = some (.own m)) (hij : i ≠ j) (hjo : ∀ p ∈ C.io, p.1 ≠ j) (h : MutV C m f s) (hb : ∀ (Dn : Ends) σ H v, σ[j]? = some (some v) → s v H (fun H' => Dn.nx σ H') → tb Dn σ H) (hj : j < Γ.length) (qm : m.stor = true := by rfl) (hΓ : Γ.all Md.stor = true := by rfl) :
    SS C W mr Γb Γ (tFor (iSeq C.K (tVar i)) (L2.gName j) tb) (gForM i j f) Γ := by
  intro F H σ ρ L Dn hs r k
  unfold gForM at k
  rcases lk_cases ρ i with ⟨d, g2, g3⟩ | g3
  case inr => rw [g3] at k; exact k.elim
  rw [g3] at k
  cases d with
  | lst ds =>
    have k : PS' C W mr Γb Γ F H L Dn (match mapR f ds with | .ok es => .nx ((ρ.set j none).set i (some (.lst es))) | _ => .stuck) := k
    cases e : mapR f ds with
    | ex c x => rw [e] at k; exact k.elim
    | stuck => rw [e] at k; exact k.elim
    | ok es =>
      rw [e] at k
      have k : PS' C W mr Γb Γ F H L Dn (.nx ((ρ.set j none).set i (some (.lst es)))) := k
      have el := mapR_len e
      obtain ⟨v, h1, r1⟩ := r.take hi g2
      obtain ⟨fp, hA⟩ := r1.head
      unfold At at hA
      rw [if_pos (show isLD (.lst ds) = true from rfl)] at hA
      obtain ⟨a, vs, o, fc, rfl, h2, h3, h4, h5, h6, h7⟩ := hA
      obtain rfl : o = .lst vs := h5
      have lv : ds.length = vs.length := h7.length
      refine .inl ⟨.ref a, h1, a, rfl, ⟨vs, .inl (.inl h4)⟩, ?_⟩
      refine for_list (xs := vs) (fun n σ' H' => H' a = some (.lst vs) ∧ σ'[i]? = some (some (.ref a)) ∧ Rep C F H' Γ σ' ((ρ.set i none).set j none) ((.own m, .lst (es.take n ++ ds.drop n), .ref a) :: L)) ⟨h4, h1, ?_⟩ (fun n σ' H' _ p => .inl (.inl p.1)) (fun n x σ' H' hx p => ?_) (fun σ' H' p => ?_)
      · have sj : σ.set j (σ[j]?.getD none) = σ := by
          by_cases hl : j < σ.length
          · refine set_id ?_
            rw [List.getElem?_eq_getElem hl]
            rfl
          · exact List.set_eq_of_length_le (by omega)
        have r2 := r1.name (i := j) (σ[j]?.getD none) hjo
        rw [sj] at r2
        exact r2
      · obtain ⟨p1, p2, r3⟩ := p
        have hn : n < ds.length := by rw [lv]; exact (List.getElem?_eq_some_iff.mp hx).1
        obtain ⟨y, ey, ez⟩ := mapR_get e (List.getElem?_eq_getElem hn)
        have r4 := r3.name (i := j) (some x) hjo
        rw [set_set'] at r4
        have hsj : (σ'.set j (some x))[j]? = some (some x) := by
          have : j < σ'.length := by
            obtain ⟨q1, q2, _, qa, _⟩ := r3.own
            rw [qa.len.1]
            exact hj
          rw [List.getElem?_set_self this]
        refine hb _ _ _ x hsj ?_
        obtain ⟨fp, nd, hA, ch⟩ := r4.change hΓ hs
        have hA2 := hA
        unfold At at hA
        rw [if_pos (show isLD (.lst (es.take n ++ ds.drop n)) = true from rfl)] at hA
        obtain ⟨a2, vs2, o, fc, q1, q2, q3, q4, q5, q6, q7⟩ := hA
        cases q1
        obtain rfl : o = .lst vs2 := q5
        rw [p1] at q4
        cases q4
        subst q6
        have np := List.nodup_cons.mp nd
        have ex : (es.take n ++ ds.drop n)[n]? = some ds[n] := by
          rw [List.getElem?_append_right (by rw [List.length_take]; omega), List.getElem?_drop, List.length_take]
          rw [show n + (n - min n es.length) = n by omega]
          exact List.getElem?_eq_getElem hn
        refine mutK h qm r4.fit q7 np.2 ex ey hx fun p ws fp' hp hq hB => ?_
        have hpa : a ≠ p := fun z => np.1 (z ▸ hp)
        refine ⟨by rw [upd_ne hpa]; exact p1, ?_, ?_⟩
        · rw [List.getElem?_set_ne (Ne.symm hij)]
          exact p2
        · rw [← step_tk el ez]
          refine ch p ws _ (a :: fp') (List.mem_cons_of_mem _ hp) (List.Sublist.cons₂ a hq) ?_
          unfold At
          rw [if_pos (show isLD (.lst ((es.take n ++ ds.drop n).set n y)) = true from rfl)]
          exact ⟨a, vs, _, fp', rfl, q2, q3, by rw [upd_ne hpa]; exact p1, rfl, rfl, hB⟩
      · obtain ⟨p1, p2, r3⟩ := p
        rw [← lv, List.drop_length, List.append_nil, ← el, List.take_length] at r3
        have r4 := r3.back p2 (.inl hi)
        rw [set_id hi] at r4
        have e9 : ((ρ.set i none).set j none).set i (some (.lst es)) = (ρ.set j none).set i (some (.lst es)) := by
          rw [List.set_comm _ _ (by omega), set_set', List.set_comm _ _ (by omega)]
        rw [e9] at r4
        exact k F H' σ' (Same.refl _) r4
  | _ => exact k.elim
/-! ### frozen behind a statement -/
theorem Rep.late {i : Nat} {F' : Hp} (r : Rep C F H Γ σ ρ L) (e1 : Γ[i]? = some m) (q : m.fz = true) (hio : ∀ p ∈ C.io, p.1 ≠ i) : ∃ F', Same F F' ∧ Rep C F' H (Γ.set i .fr) σ ρ L := by
  rcases lk_cases ρ i with ⟨d, g2, _⟩ | g3
  · obtain ⟨v, F', h1, h2, h3⟩ := r.share e1 g2 q hio
    exact ⟨F', h2, h3.tail⟩
  · refine ⟨F, Same.refl _, r.fit, fun p hp => ⟨(r.io p hp).1, by rw [List.getElem?_set_ne (Ne.symm (hio p hp))]; exact (r.io p hp).2⟩, ?_⟩
    obtain ⟨f1, f2, nd, a, b⟩ := r.own
    refine ⟨f1, f2, nd, ?_, b⟩
    have key : ∀ {Γ : List Md} {σ : L2.St} {ρ : EnvD} {fp : List Addr} {i : Nat}, Slots C F H Γ σ ρ fp → lk ρ i = .stuck → Slots C F H (Γ.set i .fr) σ ρ fp := by
      intro Γ
      induction Γ with
      | nil => intro σ ρ fp i h _; exact h
      | cons m1 Γ ih =>
        intro σ ρ fp i h z
        cases σ with
        | nil => cases h
        | cons s1 σ =>
          cases ρ with
          | nil => cases h
          | cons r1 ρ =>
            obtain ⟨f1, f2, h1, h2, h3⟩ := h
            cases i with
            | zero =>
              cases r1 with
              | none => exact ⟨f1, f2, h1, h2, h3⟩
              | some d => cases z
            | succ i => exact ⟨f1, f2, h1, h2, ih h3 z⟩
    exact key a g3
theorem ss_frz {g : GS} (h : SS C W mr Γb Γ t g Γ') (hi : Γ'[i]? = some m) (hio : ∀ p ∈ C.io, p.1 ≠ i) (q : m.fz = true := by rfl) : SS C W mr Γb Γ t g (Γ'.set i .fr) := by
  intro F H σ ρ L Dn hs r k
  refine h F H σ ρ L Dn hs r ?_
  revert k
  cases g ρ with
  | nx ρ' =>
    intro k F1 H1 σ1 s1 r1
    obtain ⟨F2, s2, r2⟩ := r1.late (F' := F1) hi q hio
    exact k F2 H1 σ1 (s1.trans s2) r2
  | _ => exact fun k => k
/-! ### a list of flat data, read in any mode -/
def gFlatK (g : GE) : GE := fun ρ => (g ρ).bind fun d => match d with
  | .lst ds => if (flats ds).isSome = true then .ok (.lst ds) else .stuck
  | d => if (DL.flat d).isSome = true then .ok d else .stuck
theorem flats_alls : ∀ {ds : List DV} {vs ws : List V}, flats ds = some ws → DAs C.K C.mg H ds vs → m.rd = true → Alls (At C F H m) ds vs []
  | [], _, _, _, h, _ => ⟨h, rfl⟩
  | d :: ds, _, ws, e, ⟨w, r, h1, h2, h3⟩, q => by
    unfold flats at e
    cases e1 : DL.flat d with
    | none => rw [e1] at e; simp at e
    | some u =>
      cases e2 : flats ds with
      | none => rw [e1, e2] at e; simp at e
      | some us =>
        have z := da_flat e1 h2
        subst z
        exact ⟨_, r, [], [], h1, rfl, At.flat q e1, flats_alls e2 h3 q⟩
theorem se_flatK {t : TE} {g : GE} (h : SE C W Γ t g ma) (q : ma.rd = true := by rfl) (qm : m.rd = true := by rfl) : SE C W Γ t (gFlatK g) (.pk m) := by
  intro F H σ ρ L Q hL r k
  unfold gFlatK at k
  refine se_then h hL r k fun d F1 H1 x s1 s2 r1 k1 => ?_
  have fl : ∀ d, (∀ ds, d ≠ .lst ds) → PE' C W Γ F1 H1 σ ρ L (.pk m) Q (if (DL.flat d).isSome = true then .ok d else .stuck) → Rep C F1 H1 Γ σ ρ ((ma, d, x) :: L) → Q x H1 := by
    intro d _ k1 r1
    split at k1
    · rename_i hz
      obtain ⟨w, hw⟩ := Option.isSome_iff_exists.mp hz
      have e := da_flat hw (r1.da q)
      subst e
      exact k1.flat r1.tail qm hw
    · exact k1.elim
  cases d with
  | lst ds =>
    have k1 : PE' C W Γ F1 H1 σ ρ L (.pk m) Q (if (flats ds).isSome = true then .ok (.lst ds) else .stuck) := k1
    split at k1
    · rename_i hz
      obtain ⟨ws, hw⟩ := Option.isSome_iff_exists.mp hz
      obtain ⟨a, vs, rfl, h2, h3⟩ := r1.da q
      refine k1.give r1.tail ?_
      unfold At
      rw [if_pos (show isLD (.lst ds) = true from rfl)]
      exact ⟨a, vs, rfl, h2, flats_alls hw h3 qm⟩
    · exact k1.elim
  | non => exact fl _ (fun _ => by rintro ⟨⟩) k1 r1
  | bl b => exact fl _ (fun _ => by rintro ⟨⟩) k1 r1
  | int b => exact fl _ (fun _ => by rintro ⟨⟩) k1 r1
  | str b => exact fl _ (fun _ => by rintro ⟨⟩) k1 r1
  | tup b => exact fl _ (fun _ => by rintro ⟨⟩) k1 r1
  | dct b c => exact fl _ (fun _ => by rintro ⟨⟩) k1 r1
  | obj b c e => exact fl _ (fun _ => by rintro ⟨⟩) k1 r1
end
end DL
end

/-! text DM1 -/
section
set_option maxRecDepth 100000
set_option maxHeartbeats 4000000
/-! xs.extend(ys), xs a name's own list of frozen data, ys frozen -/
namespace DL
open PySem PySem.Spec PyProof.Rows L2
def rExtendR : V → List V → Hp → VK → Prop := fun x vs H Q => ∃ l b xs zs, x = .ref l ∧ vs = [.ref b] ∧ H l = some (.lst xs) ∧ Rd H b (.lst zs) ∧ xs.length + zs.length ≤ sizeLine ∧ Q .non (L2.upd H l (.lst (xs ++ zs)))
theorem mt_extendR {X : Cx} : MtM X "list.extend" rExtendR := by
  intro pins s σ H x vs v us Q I rx rv h
  obtain ⟨l, b, xs, zs, rfl, rfl, hH, hB, hz, q⟩ := h
  cases rx
  obtain ⟨u, rfl, ru⟩ := rv.one
  cases ru
  obtain ⟨z, its, n, r, hl, e⟩ := I.lstM hH
  obtain ⟨z2, its2, n2, r2, e2⟩ := hB.ok I.hok
  have hl2 := r2.length
  have hsz : its.toArray.size + its2.toArray.size ≤ sizeLine := by rw [List.size_toArray, List.size_toArray]; omega
  have hlong : ¬ (!its.toArray.isEmpty && Builtin.List.listTooLong (its.toArray.size + its2.toArray.size)) = true := by
    rw [notLongL hsz, Bool.and_false]
    exact Bool.false_ne_true
  refine call_meets F.slot_list_extend ⟨_, e, rfl⟩ F.entry_list_extend (F.args_list_extend_2 _ _)
    (AutoSeq1.list_extend_list_list_0 l its.toArray n b its2.toArray n2 hlong (by rw [List.size_toArray]; omega) (by omega)) ⟨e, e2, ?_⟩
  refine ⟨.non, _, I.lset (its' := its ++ its2) hH e (by simp) (r.append r2) ?_, rfl, q⟩
  rw [List.length_append]
  omega
section
variable {C : Cxt} {W : Wx} {F F' H H' : Hp} {Γ Γb Γ' : List Md} {σ : L2.St} {ρ : EnvD} {L : List Ent} {m ma mb mr M : Md} {d : DV} {v : V} {Dn : Ends}
def extD (x : Rs DV) (y : DV) (ρ : EnvD) (i : Nat) : Rs (DV × EnvD) := match x, y with
  | .ok (.lst ds), .lst es => if ds.length + es.length ≤ sizeLine then .ok (.non, ρ.set i (some (.lst (ds ++ es)))) else .stuck
  | _, _ => .stuck
def gExt (i : Nat) (g : GX) : GX := fun ρ => match lk ρ i with
  | .ok (.lst _) => (g ρ).bind fun p => extD (lk p.2 i) p.1 p.2 i
  | _ => .stuck
theorem sx_ext {i : Nat} {t : TE} {g : GX} (hi : Γ[i]? = some (.own .fr)) (h : SX C W Γ t g .fr) (hΓ : Γ.all Md.stor = true := by rfl) : SX C W Γ (tBM C.K "list" rExtendR (tVar i) (tCons t tNil)) (gExt i g) .fr := by
  intro F H σ ρ L Q hs r k
  show tVar i σ H fun v H1 => tyV C.K "list" v H1 ∧ t σ H1 fun y H2 => rExtendR v [y] H2 Q
  unfold gExt at k
  rcases lk_cases ρ i with ⟨d, e2, e3⟩ | e3
  · rw [e3] at k
    cases d with
    | lst ds0 =>
      have k : PX' C W Γ F H σ L .fr Q ((g ρ).bind fun p => extD (lk p.2 i) p.1 p.2 i) := k
      obtain ⟨v, f, h1, hf⟩ := r.get hi e2
      unfold At at hf
      rw [if_pos (show isLD (.lst ds0) = true from rfl)] at hf
      obtain ⟨a, ws, o, fc, rfl, _, _, hH, hN, _, _⟩ := hf
      obtain rfl : o = .lst ws := hN
      refine ⟨.ref a, h1, .inl ⟨rfl, ws, .inl (.inl hH)⟩, ?_⟩
      refine h F H σ ρ L _ hs r ?_
      revert k
      cases g ρ with
      | ex c d => exact fun k => k
      | stuck => exact fun k => k
      | ok p =>
        obtain ⟨dy, ρ'⟩ := p
        intro k F1 H1 y s1 r1
        have k : PX' C W Γ F H σ L .fr Q (extD (lk ρ' i) dy ρ' i) := k
        rcases lk_cases ρ' i with ⟨d, g2, g3⟩ | g3
        · rw [g3] at k
          cases d with
          | lst ds =>
            cases dy with
            | lst es =>
              have k : PX' C W Γ F H σ L .fr Q (if ds.length + es.length ≤ sizeLine then .ok (.non, ρ'.set i (some (.lst (ds ++ es)))) else .stuck) := k
              split at k
              · rename_i hz
                obtain ⟨v, h2, r2⟩ := r1.take hi g2
                rw [h1] at h2
                cases h2
                obtain ⟨b, zs, rfl, z1, z2⟩ := r2.tail.fr
                obtain ⟨fp, nd, hA, ch⟩ := r2.change hΓ (storL_cons rfl hs)
                unfold At at hA
                rw [if_pos (show isLD (.lst ds) = true from rfl)] at hA
                obtain ⟨a2, vs, o, fc, q1, q2, q3, q4, q5, q6, q7⟩ := hA
                cases q1
                obtain rfl : o = .lst vs := q5
                subst q6
                have fc0 : fc = [] := q7.nil_fp fun d v f h => h.1
                subst fc0
                refine ⟨a, b, vs, zs, rfl, rfl, q4, same_rd r2.fit.fh z1, by rw [← q7.length, ← z2.length]; exact hz, ?_⟩
                have r3 := ch a (vs ++ zs) (.lst (ds ++ es)) [a] List.mem_cons_self (List.Sublist.refl _) (by
                  unfold At
                  rw [if_pos (show isLD (.lst (ds ++ es)) = true from rfl)]
                  refine ⟨a, vs ++ zs, _, [], rfl, q2, q3, upd_same, rfl, rfl, ?_⟩
                  exact (q7.imp (R' := At C F1 (L2.upd H1 a (.lst (vs ++ zs))) .fr) fun d v f _ x => x).append (Alls.of_das z2 fun d v h => ⟨rfl, h⟩))
                have r4 := r3.back h1 (.inl hi)
                rw [set_set', set_id hi] at r4
                exact k F1 _ .non s1 (r4.tail.cons0 ⟨rfl, rfl⟩)
              · exact k.elim
            | _ => exact k.elim
          | _ => exact k.elim
        · rw [g3] at k
          exact k.elim
    | _ => exact k.elim
  · rw [e3] at k
    exact k.elim
/-! ### a name in a display that later parts still read: it is moved when all is evaluated -/
theorem entsA_perm : ∀ {ms : List Md} {ds : List DV} {vs : List V} {L L' : List Ent}, L.Perm L' → (entsA ms ds vs L).Perm (entsA ms ds vs L')
  | [], _, _, _, _, p => by unfold entsA; exact p
  | m :: ms, [], _, _, _, p => by unfold entsA; exact p
  | m :: ms, d :: ds, [], _, _, p => by unfold entsA; exact p
  | m :: ms, d :: ds, v :: vs, _, _, p => by
    unfold entsA
    exact entsA_perm (p.cons _)
theorem entsA_out {e : Ent} : ∀ {ms : List Md} {ds : List DV} {vs : List V} {L : List Ent}, (entsA ms ds vs (e :: L)).Perm (e :: entsA ms ds vs L)
  | [], _, _, _ => by unfold entsA; exact List.Perm.refl _
  | m :: ms, [], _, _ => by unfold entsA; exact List.Perm.refl _
  | m :: ms, d :: ds, [], _ => by unfold entsA; exact List.Perm.refl _
  | m :: ms, d :: ds, v :: vs, L => by
    have h := entsA_out (e := e) (ms := ms) (ds := ds) (vs := vs) (L := (m, d, v) :: L)
    have h2 : (entsA ms ds vs ((m, d, v) :: e :: L)).Perm (entsA ms ds vs (e :: (m, d, v) :: L)) := entsA_perm (List.Perm.swap _ _ _)
    unfold entsA
    exact h2.trans h
def xLate (i : Nat) (gr : GAX) : GAX := fun ρ => match lk ρ i with
  | .ok _ => (gr ρ).bind fun q => (lk q.2 i).bind fun d => .ok (d :: q.1, q.2.set i none)
  | _ => .stuck
theorem sxa_late {i : Nat} {tr : TA} {gr : GAX} {ms : List Md} (hi : Γ[i]? = some m) (hr : SXA C W Γ tr gr ms) : SXA C W Γ (tCons (tVar i) tr) (xLate i gr) (m :: ms) := by
  intro F H σ ρ L Q hs r k
  show ∃ v, σ[i]? = some (some v) ∧ tr σ H fun xs H2 => Q (v :: xs) H2
  unfold xLate at k
  rcases lk_cases ρ i with ⟨d0, e2, e3⟩ | e3
  · rw [e3] at k
    have k : PAX' C W Γ F H σ L (m :: ms) Q ((gr ρ).bind fun q => (lk q.2 i).bind fun d => .ok (d :: q.1, q.2.set i none)) := k
    obtain ⟨v, f, h1, _⟩ := r.get hi e2
    refine ⟨v, h1, hr F H σ ρ L _ hs r ?_⟩
    revert k
    cases gr ρ with
    | ex c d => exact fun k => k
    | stuck => exact fun k => k
    | ok q =>
      obtain ⟨ds, ρ2⟩ := q
      intro k F2 H2 vs s2 e1 e2 r2
      have k : PAX' C W Γ F H σ L (m :: ms) Q ((lk ρ2 i).bind fun d => .ok (d :: ds, ρ2.set i none)) := k
      rcases lk_cases ρ2 i with ⟨d, g2, g3⟩ | g3
      · rw [g3] at k
        obtain ⟨w, h2, r3⟩ := r2.take hi g2
        rw [h1] at h2
        cases h2
        exact k F2 H2 (v :: vs) s2 (by rw [List.length_cons, List.length_cons, e1]) (by rw [List.length_cons, List.length_cons, e2]) (by
          show Rep C F2 H2 Γ σ (ρ2.set i none) (entsA ms ds vs ((m, d, v) :: L))
          exact r3.permL (entsA_out.symm))
      · rw [g3] at k
        exact k.elim
  · rw [e3] at k
    exact k.elim
/-! ### list(range(a, b)) -/
def gLRg (ga gb : GE) : GE := fun ρ => (ga ρ).bind fun x => (gb ρ).bind fun y => (dRng2 [x, y]).bind fun ds => if ds.length ≤ sizeLine then .ok (.lst ds) else .stuck
theorem alls_rg {a : Int} : ∀ ks : List Nat, Alls (At C F H .fr) (ks.map fun k : Nat => DV.int (a + (k : Int))) (ks.map fun k : Nat => V.int (a + (k : Int))) []
  | [] => ⟨rfl, rfl⟩
  | k :: ks => ⟨_, _, [], [], rfl, rfl, At.flat rfl rfl, alls_rg ks⟩
theorem se_lrg {ta tb : TE} {ga gb : GE} (ha : SE C W Γ ta ga ma) (hb : SE C W Γ tb gb mb) (qo : (ma.stor || ma.free) = true := by rfl) (qa : ma.rd = true := by rfl) (qb : mb.rd = true := by rfl) : SE C W Γ (tLstRg (tRg2 ta tb)) (gLRg ga gb) (.own .fr) := by
  intro F H σ ρ L Q hL r k
  show ta σ H fun x H1 => tb σ H1 fun y H2 => ∃ i j, x = .int i ∧ y = .int j ∧ (RgOk i j ∧ ∀ q, H2 q = none → Q (.ref q) (L2.upd H2 q (.lst (rgV i j))))
  unfold gLRg at k
  refine se_then ha hL r k fun dx F1 H1 x s1 s2 r1 k1 => ?_
  refine se_then hb (okL_cons qo hL) r1 k1 fun dy F2 H2 y s3 s4 r2 k2 => ?_
  have hx := r2.tail.da qa
  have hy := r2.da qb
  obtain ⟨ds, e1, e2⟩ : ∃ ds, dRng2 [dx, dy] = .ok ds ∧ PE' C W Γ F2 H2 σ ρ L (.own .fr) Q (if ds.length ≤ sizeLine then .ok (.lst ds) else .stuck) := by
    revert k2
    cases e : dRng2 [dx, dy] with
    | ok ds => exact fun k2 => ⟨ds, rfl, k2⟩
    | ex c d =>
      unfold dRng2 at e
      split at e
      · split at e <;> cases e
      · cases e
    | stuck => exact fun k2 => k2.elim
  unfold dRng2 at e1
  split at e1
  · rename_i i j he
    cases he
    split at e1
    · rename_i hz
      cases e1
      split at e2
      · rename_i hl
        obtain ⟨z1, z2⟩ := (Bool.and_eq_true _ _).mp hz
        have b1 := rngOk_ok z1
        have b2 := rngOk_ok z2
        have hn : (rngD i (j - i).toNat).length = (j - i).toNat := by unfold rngD; rw [List.length_map, List.length_range]
        refine ⟨i, j, hx, hy, ⟨b1.1, b1.2, b2.1, b2.2, ?_⟩, fun q np => ?_⟩
        · rw [hn, sizeLine_eq] at hl
          omega
        · exact e2 F2 _ _ (Same.refl _) (same_upd np) (r2.tail.tail.newl np (alls_rg _))
      · exact e2.elim
    · cases e1
  · cases e1
end
end DL
end

/-! text DM2 -/
section
set_option maxRecDepth 100000
set_option maxHeartbeats 4000000
/-! len(set(xs)) of whole numbers, twice met or not; xs[::-1] -/
namespace DL
open PySem PySem.Spec PyProof.Rows L2
def setLen (ns : List Int) : Nat := (PyProof.Rows.firstMet (fun i => ns.getD i 0) ns.length).length
def tLenS (K : PySem.W.Frag) (ta : TE) : TE := fun σ H Q => ta σ H fun x H1 => ∃ (l : Addr) (ns : List Int), x = .ref l ∧ SqL K H1 l (ns.map V.int) ∧ ns.length ≤ 4000 ∧ Q (.int (setLen ns : Nat)) H1
theorem setLen_le (ns : List Int) : setLen ns ≤ ns.length := PyProof.Rows.firstMet_length_le _ _
theorem pe_lenS {X : Cx} {a : Expr} {ta : TE} {p p2 q pos : Pos} (hg : Gl X "len") (hm : X.mg "len" = none) (hg2 : Gl X "set") (hm2 : X.mg "set" = none) (ha : PE X a ta) (hc : X.calm = true := by rfl)
    (na : starEach [a] X.env = (false, eval a X.env) :: starEach [] X.env := by rfl) : PE X (.Call (.Name "len" p) [.Call (.Name "set" p2) [a] [] q] [] pos) (tLenS X.K ta) := by
  refine ⟨fun pins s σ H Q I h => ?_⟩
  refine Call_ (ld_blt I hg hm boot_len ?_)
  refine PyProof.Rows.callWith_builtin1 (PyProof.Rows.args_cons ?_ rfl) rfl rfl
  refine Call_ (ld_blt I hg2 hm2 boot_set ?_)
  refine PyProof.Rows.callWith_type1 (PyProof.Rows.args_cons (thn (ha.run pins s σ H _ I h) fun v s1 ⟨x, H1, I1, r1, q1⟩ => PyProof.Rows.args_nil ?_) na) na rfl
  obtain ⟨l, ns, rfl, hq, hl, q1⟩ := q1
  cases r1
  obtain ⟨its, r, pl, hz⟩ := I1.list hq
  have hlen : its.toArray.size = ns.length := by rw [List.size_toArray, ← r.length, List.length_map]
  have sl := setLen_le ns
  refine call_set_list (I1.ok.hd hc) pl.isList (by simpa using RZ.intsAre_vals r) (by rw [hlen]; unfold scanBound; omega) fun h' tk hS hk => ?_
  refine PyProof.Rows.args_nil ?_
  rw [hlen] at hS
  obtain ⟨o, es, ep, t, ho, hex, hd, _, _, _, hf, hn⟩ := hS
  have hn : _ = setLen ns := hn
  have I2 : Inv X pins σ H1 { s1 with heap := h', toks := tk } := I1.kept fun b o e => hk b o (Heap.lt_size e) e
  exact call_len_set ho hex hd hf (by rw [hn] <;> omega) ⟨.int (setLen ns : Nat), H1, I2.tok _, ⟨_, by rw [hn]⟩, q1⟩
section
variable {C : Cxt} {W : Wx} {F F' H H' : Hp} {Γ Γb Γ' : List Md} {σ : L2.St} {ρ : EnvD} {L : List Ent} {m ma mb mr M : Md} {d : DV} {v : V} {Dn : Ends}
def dLenS : OpA
  | [.lst ds] => match iLst ds with
    | some ns => if ns.length ≤ 4000 then .ok (.int (setLen ns : Nat)) else .stuck
    | none => .stuck
  | _ => .stuck
def gLenS (g : GE) : GE := fun ρ => (g ρ).bind fun d => dLenS [d]
theorem se_lenS {t : TE} {g : GE} (ha : SE C W Γ t g ma) (q : ma.ixok = true := by rfl) : SE C W Γ (tLenS C.K t) (gLenS g) .fr := by
  intro F H σ ρ L Q hL r k
  show t σ H fun x H1 => ∃ (l : Addr) (ns : List Int), x = .ref l ∧ SqL C.K H1 l (ns.map V.int) ∧ ns.length ≤ 4000 ∧ Q (.int (setLen ns : Nat)) H1
  refine se_then ha hL r k fun dx F1 H1 x s1 s2 r1 k1 => ?_
  cases dx with
  | lst ds =>
    obtain ⟨a, vs, h1, h2, h3⟩ := r1.items q
    subst h1
    revert k1
    show PE' C W Γ F1 H1 σ ρ L .fr Q (match iLst ds with | some ns => if ns.length ≤ 4000 then .ok (.int (setLen ns : Nat)) else .stuck | none => .stuck) → _
    cases e : iLst ds with
    | none => exact fun k => k.elim
    | some ns =>
      intro k
      dsimp only at k
      split at k
      · rename_i hz
        have e2 := ints_ok e
        subst e2
        have e3 := h3.iLst
        subst e3
        exact ⟨a, ns, rfl, h2.1, hz, k.flat r1.tail rfl rfl⟩
      · exact k.elim
  | _ => exact k1.elim
theorem Alls.rev {R : DV → V → List Addr → Prop} : ∀ {ds : List DV} {vs : List V}, Alls R ds vs [] → Alls R ds.reverse vs.reverse [] := by
  intro ds
  induction ds with
  | nil =>
    intro vs h
    obtain ⟨rfl, _⟩ := h
    exact ⟨rfl, rfl⟩
  | cons d ds ih =>
    intro vs h
    obtain ⟨w, r, f1, f2, e1, e2, h1, h2⟩ := h
    obtain ⟨rfl, rfl⟩ := List.append_eq_nil_iff.mp e2.symm
    subst e1
    rw [List.reverse_cons, List.reverse_cons]
    exact (ih h2).append ⟨w, [], [], [], rfl, rfl, h1, rfl, rfl⟩
def dRev : DV → Rs DV
  | .lst ds => .ok (.lst ds.reverse)
  | _ => .stuck
def gRev (g : GE) : GE := fun ρ => (g ρ).bind dRev
theorem se_rev {t : TE} {g : GE} (ha : SE C W Γ t g ma) (q : ma.ixok = true := by rfl) (qk : ma.kid = .fr := by rfl) : SE C W Γ (tRevL C.K t) (gRev g) (.own .fr) := by
  intro F H σ ρ L Q hL r k
  show t σ H fun x H1 => ∃ a xs, x = .ref a ∧ SqL C.K H1 a xs ∧ ∀ p, H1 p = none → Q (.ref p) (upd H1 p (.lst xs.reverse))
  refine se_then ha hL r k fun dx F1 H1 x s1 s2 r1 k1 => ?_
  cases dx with
  | lst ds =>
    obtain ⟨a, vs, h1, h2, h3⟩ := r1.items q
    rw [qk] at h3
    exact ⟨a, vs, h1, h2.1, fun p np => k1 F1 _ _ (Same.refl _) (same_upd np) (r1.tail.newl np h3.rev)⟩
  | _ => exact k1.elim
end
/-! the count of a set -/
theorem ded_le : ∀ (xs acc : List Int), (xs.foldl PyProof.Rows.step_dedup acc).length ≤ acc.length + xs.length
  | [], acc => by simp
  | x :: xs, acc => by
    have := ded_le xs (PyProof.Rows.step_dedup acc x)
    have e := PyProof.Rows.step_length acc x
    rw [List.foldl_cons, List.length_cons]
    split at e <;> omega
theorem ded_eq : ∀ (xs acc : List Int), (xs.foldl PyProof.Rows.step_dedup acc).length = acc.length + xs.length → (∀ x ∈ xs, x ∉ acc) ∧ xs.Nodup
  | [], acc, _ => ⟨fun x h => (by cases h), List.nodup_nil⟩
  | x :: xs, acc, h => by
    rw [List.foldl_cons, List.length_cons] at h
    have l := ded_le xs (PyProof.Rows.step_dedup acc x)
    have e := PyProof.Rows.step_length acc x
    split at e
    · omega
    · rename_i hn
      obtain ⟨h1, h2⟩ := ded_eq xs (PyProof.Rows.step_dedup acc x) (by omega)
      have nx : x ∉ acc := fun z => hn (List.any_eq_true.mpr ⟨x, z, beq_self_eq_true x⟩)
      have st : ∀ k, k ∈ acc ∨ k = x → k ∈ PyProof.Rows.step_dedup acc x := fun k hk => by
        have a := PyProof.Rows.step_any acc x k
        have b : (PyProof.Rows.step_dedup acc x).any (· == k) = true := by
          rw [a]
          rcases hk with hk | hk
          · have e3 : (acc.any fun x => x == k) = true := List.any_eq_true.mpr ⟨k, hk, beq_self_eq_true k⟩
            rw [e3]
            rfl
          · rw [decide_eq_true hk, Bool.or_true]
        obtain ⟨y, hy, ey⟩ := List.any_eq_true.mp b
        rw [← eq_of_beq ey]
        exact hy
      refine ⟨fun y hy => ?_, List.nodup_cons.mpr ⟨fun z => h1 x z (st x (.inr rfl)), h2⟩⟩
      rcases List.mem_cons.mp hy with rfl | hy
      · exact nx
      · exact fun z => h1 y hy (st y (.inl z))
theorem setLen_iff {ns : List Int} : setLen ns = ns.length ↔ ns.Nodup := by
  constructor
  · intro h
    unfold setLen PyProof.Rows.firstMet at h
    have e : (List.range ns.length).map (fun i => ns.getD i 0) = ns := by
      refine List.ext_getElem (by simp) fun i h1 h2 => ?_
      rw [List.getElem_map, List.getElem_range, List.getD_eq_getElem?_getD, List.getElem?_eq_getElem h2]
      rfl
    rw [e] at h
    exact (ded_eq ns [] (by simpa using h)).2
  · intro h
    unfold setLen
    rw [RZ.firstMet_nodup h ns.length (Nat.le_refl _), List.take_length]
end DL
end

/-! text DM3 -/
section
set_option maxRecDepth 100000
set_option maxHeartbeats 4000000
/-! order of data that are alike: lists, tuples, mixed ones -/
namespace DL
open PySem PySem.Spec PyProof.Rows L2
def rOrdD (f : PyData → PyData → Bool) (K : PySem.W.Frag) : R2 := fun x y H Q => ∃ d e, Dp K H x d ∧ Dp K H y e ∧ PySem.W.alike d e = true ∧ d ≠ .none ∧ d.depth ≤ 20 ∧ Q (.bl (f d e)) H
abbrev cLt : PyData → PyData → Bool := fun d e => PySem.W.dataLt d e
abbrev cGe : PyData → PyData → Bool := fun d e => !PySem.W.dataLt d e
abbrev cGt : PyData → PyData → Bool := fun d e => PySem.W.dataLt e d
abbrev cLe : PyData → PyData → Bool := fun d e => !PySem.W.dataLt e d
section
variable {X : Cx}
theorem op_ordD {op : CmpOp} {f : PyData → PyData → Bool} (h : ∀ {A : Around} {E Q : Value → Shared → Prop} {s : Shared} {a b : Value} {d e : PyData} {as bs : List Addr}, Reads s.heap a d as → Reads s.heap b e bs → PySem.W.alike d e = true → d ≠ .none → A.units + min d.depth e.depth < cLine → Q (.bool (f d e)) s → wpAny (model X.prog X.w) A (compareOp op a b) Q E s) (hu : X.A.units + 65 < cLine) : OpR X (compareOp op) (rOrdD f X.K) := by
  intro pins s σ H x y v u Q I rx ry k
  obtain ⟨d, e, hd, he, al, nn, dp, q⟩ := k
  obtain ⟨as, r1⟩ := Dp.reads I d x v hd rx
  obtain ⟨bs, r2⟩ := Dp.reads I e y u he ry
  exact h r1 r2 al nn (by have := Nat.min_le_left d.depth e.depth; omega) ⟨.bl _, H, I, rfl, q⟩
theorem op_ltD (hu : X.A.units + 65 < cLine) : OpR X (compareOp .Lt) (rOrdD cLt X.K) := op_ordD (fun r1 r2 al nn u q => PySem.W.lt_data r1 r2 al nn u q) hu
theorem op_geD (hu : X.A.units + 65 < cLine) : OpR X (compareOp .GtE) (rOrdD cGe X.K) := op_ordD (fun r1 r2 al nn u q => PySem.W.ge_data r1 r2 al nn u q) hu
theorem op_gtD (hu : X.A.units + 65 < cLine) : OpR X (compareOp .Gt) (rOrdD cGt X.K) := op_ordD (fun r1 r2 al nn u q => PySem.W.gt_data r1 r2 al nn u q) hu
theorem op_leD (hu : X.A.units + 65 < cLine) : OpR X (compareOp .LtE) (rOrdD cLe X.K) := op_ordD (fun r1 r2 al nn u q => PySem.W.le_data r1 r2 al nn u q) hu
theorem kx_ltD {K : PySem.W.Frag} (hk : X.K = K) (hu : X.A.units + 65 < cLine) : OpR X (compareOp .Lt) (rOrdD cLt K) := by subst hk; exact op_ltD hu
theorem kx_geD {K : PySem.W.Frag} (hk : X.K = K) (hu : X.A.units + 65 < cLine) : OpR X (compareOp .GtE) (rOrdD cGe K) := by subst hk; exact op_geD hu
theorem kx_gtD {K : PySem.W.Frag} (hk : X.K = K) (hu : X.A.units + 65 < cLine) : OpR X (compareOp .Gt) (rOrdD cGt K) := by subst hk; exact op_gtD hu
theorem kx_leD {K : PySem.W.Frag} (hk : X.K = K) (hu : X.A.units + 65 < cLine) : OpR X (compareOp .LtE) (rOrdD cLe K) := by subst hk; exact op_leD hu
end
section
variable {C : Cxt} {W : Wx} {F F' H H' : Hp} {Γ Γb Γ' : List Md} {σ : L2.St} {ρ : EnvD} {L : List Ent} {m ma mb mr M : Md} {d : DV} {v : V} {Dn : Ends}
def nonP : PyData → Bool
  | .none => true
  | _ => false
def ordOk (x y : DV) : Bool := eqok x 20 && (eqok y 20 && (PySem.W.alike (py x) (py y) && !nonP (py x)))
def dOrdD (f : PyData → PyData → Bool) : OpD := fun x y => if ordOk x y = true then .ok (.bl (f (py x) (py y))) else .stuck
abbrev dLtD : OpD := dOrdD cLt
abbrev dGeD : OpD := dOrdD cGe
abbrev dGtD : OpD := dOrdD cGt
abbrev dLeD : OpD := dOrdD cLe
theorem os_ordD {f : PyData → PyData → Bool} (ra : ma.rd = true := by rfl) (rb : mb.rd = true := by rfl) : OpS C W (rOrdD f C.K) (dOrdD f) ma mb .fr := by
  intro Γ F H σ ρ L x y dx dy Q r k
  obtain ⟨h1, h2⟩ := r.da2 ra rb
  unfold dOrdD at k
  split at k
  · rename_i q
    unfold ordOk at q
    obtain ⟨q1, q⟩ := (Bool.and_eq_true _ _).mp q
    obtain ⟨q2, q⟩ := (Bool.and_eq_true _ _).mp q
    obtain ⟨q3, q4⟩ := (Bool.and_eq_true _ _).mp q
    exact ⟨py dx, py dy, da_dp dx 20 x q1 h1, da_dp dy 20 y q2 h2, q3, (fun z => by rw [z] at q4; cases q4), (eqok_ok dx 20 q1).2, k.flat r.tail.tail rfl rfl⟩
  · exact k.elim
end
end DL
end

/-! text DM4 -/
section
set_option maxRecDepth 100000
set_option maxHeartbeats 4000000
/-! zip of three lists of one length -/
namespace DL
open PySem PySem.Spec PyProof.Rows L2
theorem SBk {a b : Nat} {h h' : Heap} {o : Obj} (q : Heap.SameBut a h h') (ne : b ≠ a) (e : h.get? b = some o) : h'.get? b = some o := q.extBut _ _ ne e
theorem EBk {a b : Nat} {h h' : Heap} {o : Obj} (q : Heap.ExtBut a h h') (ne : b ≠ a) (e : h.get? b = some o) : h'.get? b = some o := q _ _ ne e
theorem LBk {a b : Nat} {h h' : Heap} {xs : Array Value} (q : Heap.SameBut a h h') (ne : b ≠ a) (e : h.IsList b xs) : h'.IsList b xs := by
  obtain ⟨o, g, r⟩ := e
  exact ⟨o, SBk q ne g, r⟩
abbrev IsTrip (h : Heap) (T : Nat) (a b c : Value) : Prop := h.get? T = some { cls := .type "tuple", data := .seq #[a, b, c] }
/-- three iterators at n, n + 1, n + 2, their tuple, the tuple that is handed out again, the zip -/
structure Z3 (h : Heap) (n l1 l2 l3 : Nat) (k : Nat) (f a b c : Value) : Prop where
  z : IsZip h (n + 5) (n + 3) (n + 4) f
  ti : IsTrip h (n + 3) (.ref n) (.ref (n + 1)) (.ref (n + 2))
  to : IsTrip h (n + 4) a b c
  i1 : h.IsListIter n l1 k
  i2 : h.IsListIter (n + 1) l2 k
  i3 : h.IsListIter (n + 2) l3 k
section
variable {prog : Program} {w : World} {A : Around} {E : Value → Shared → Prop} {s : Shared} {n l1 l2 l3 : Nat} {k : Nat} {a b c x y v : Value} {xs ys vs : Array Value}
theorem upd3 {T : Nat} {j : Nat} {u : Value} {Q : Unit → Shared → Prop} (hT : IsTrip s.heap T a b c) (h : ∀ h', h'.get? T = some { cls := .type "tuple", data := .seq ((#[a, b, c] : Array Value).setIfInBounds j u) } → Heap.SameBut T s.heap h' → Q () { s with heap := h' }) : wpAny (model prog w) A (updateSeq T (·.setIfInBounds j u)) Q E s :=
  wpAny_updateSeq hT rfl (h _ (by rw [Heap.get?_update_self _ hT rfl]; simp [Obj.mapSeq]) (Heap.SameBut.update ..))
theorem next3_item {Q : Value → Shared → Prop} (Z : Z3 s.heap n l1 l2 l3 k .none a b c) (b1 : l1 < n) (b2 : l2 < n) (b3 : l3 < n) (e1 : s.heap.IsList l1 xs) (e2 : s.heap.IsList l2 ys) (e3 : s.heap.IsList l3 vs) (hx : xs[k]? = some x) (hy : ys[k]? = some y) (hv : vs[k]? = some v)
    (hQ : ∀ h', Z3 h' n l1 l2 l3 (k + 1) (rawInt s.heap.objs.size) x y v → IsTrip h' s.heap.objs.size x y v → h'.objs.size = s.heap.objs.size + 1 → (∀ (d : Nat) (o : Obj), (d < n ∨ n + 5 < d) → s.heap.get? d = some o → h'.get? d = some o) → Q (.ref s.heap.objs.size) { s with heap := h' }) :
    wpAny (model prog w) A (Builtin.«zip.__next__» ⟨[.ref (n + 5)], []⟩) (fun r t => ∃ u, r = .done (.ret u) ∧ Q u t) E s := by
  obtain ⟨hz, hi, ho, i1, i2, i3⟩ := Z
  show wpAny _ _ (field (.ref (n + 5)) 2 >>= _) _ _ _
  refine wpAny_bind (wpAny_field hz rfl (x := .bool false) rfl ?_)
  show wpAny _ _ (field (.ref (n + 5)) 3 >>= _) _ _ _
  refine wpAny_bind (wpAny_field hz rfl (x := .ref (n + 3)) rfl (wpAny_bind (wpAny_seqItems hi rfl ?_)))
  show wpAny _ _ (Builtin.SmallTypes.ownedTupleIsFree (.ref (n + 5)) >>= _) _ _ _
  unfold Builtin.SmallTypes.ownedTupleIsFree
  refine wpAny_bind (wpAny_bind (wpAny_field hz rfl (x := .none) rfl (wpAny_pure ?_)))
  simp only [if_true]
  refine wpAny_bind (wpAny_rule (wpAny_bind (wpAny_field hz rfl (x := .ref (n + 4)) rfl (wpAny_bind (wpAny_setField_rec hz (by simp) fun h1 z1 s1 => wpAny_bind ?_)))))
  simp only [List.zipIdx_cons, List.zipIdx_nil, List.forIn_cons, List.forIn_nil]
  -- the first
  refine wpAny_bind (wpAny_bind (wpAny_onRaise ?_))
  show wpAny _ _ (Builtin.SmallTypes.nextOf (.ref n) >>= _) _ _ _
  refine wpAny_bind (wpAny_nextOf_list_item (i1.at fun o e => SBk s1 (by omega) e) (LBk s1 (by omega) e1) hx fun h2 j1 s2 => wpAny_pure ?_)
  have o2 : IsTrip h2 (n + 4) a b c := SBk s2 (by omega) (SBk s1 (by omega) ho)
  refine wpAny_bind (wpAny_seqItems o2 rfl (wpAny_bind (upd3 o2 fun h3 o3 s3 => wpAny_bind (wpAny_letGo (wpAny_pure ?_)))))
  have o3 : IsTrip h3 (n + 4) x b c := o3
  -- the second
  refine wpAny_bind (wpAny_bind (wpAny_onRaise ?_))
  show wpAny _ _ (Builtin.SmallTypes.nextOf (.ref (n + 1)) >>= _) _ _ _
  have f3 : ∀ {d : Nat} {o : Obj}, d ≠ n + 5 → d ≠ n → d ≠ n + 4 → s.heap.get? d = some o → h3.get? d = some o := fun q5 q0 q4 e => SBk s3 q4 (SBk s2 q0 (SBk s1 q5 e))
  refine wpAny_bind (wpAny_nextOf_list_item (i2.at fun o e => f3 (by omega) (by omega) (by omega) e) (items := ys) (by obtain ⟨o, g, r⟩ := e2; exact ⟨o, f3 (by omega) (by omega) (by omega) g, r⟩) hy fun h4 j2 s4 => wpAny_pure ?_)
  have o4 : IsTrip h4 (n + 4) x b c := SBk s4 (by omega) o3
  refine wpAny_bind (wpAny_seqItems o4 rfl (wpAny_bind (upd3 o4 fun h5 o5 s5 => wpAny_bind (wpAny_letGo (wpAny_pure ?_)))))
  have o5 : IsTrip h5 (n + 4) x y c := o5
  -- the third
  refine wpAny_bind (wpAny_bind (wpAny_onRaise ?_))
  show wpAny _ _ (Builtin.SmallTypes.nextOf (.ref (n + 2)) >>= _) _ _ _
  have f5 : ∀ {d : Nat} {o : Obj}, d ≠ n + 5 → d ≠ n → d ≠ n + 4 → d ≠ n + 1 → s.heap.get? d = some o → h5.get? d = some o := fun q5 q0 q4 q1 e => SBk s5 q4 (SBk s4 q1 (f3 q5 q0 q4 e))
  refine wpAny_bind (wpAny_nextOf_list_item (i3.at fun o e => f5 (by omega) (by omega) (by omega) (by omega) e) (items := vs) (by obtain ⟨o, g, r⟩ := e3; exact ⟨o, f5 (by omega) (by omega) (by omega) (by omega) g, r⟩) hv fun h6 j3 s6 => wpAny_pure ?_)
  have o6 : IsTrip h6 (n + 4) x y c := SBk s6 (by omega) o5
  refine wpAny_bind (wpAny_seqItems o6 rfl (wpAny_bind (upd3 o6 fun h7 o7 s7 => wpAny_bind (wpAny_letGo (wpAny_pure (wpAny_pure ?_))))))
  have o7 : IsTrip h7 (n + 4) x y v := o7
  refine wpAny_bind (wpAny_seqItems o7 rfl (wpAny_bind (wpAny_newTuple ?_)))
  have hs : h7.objs.size = s.heap.objs.size := by rw [s7.1, s6.1, s5.1, s4.1, s3.1, s2.1, s1.1]
  have f7 : ∀ {d : Nat} {o : Obj}, d ≠ n + 5 → d ≠ n → d ≠ n + 4 → d ≠ n + 1 → d ≠ n + 2 → s.heap.get? d = some o → h7.get? d = some o := fun q5 q0 q4 q1 q2 e => SBk s7 q4 (SBk s6 q2 (f5 q5 q0 q4 q1 e))
  have z7 : IsZip h7 (n + 5) (n + 3) (n + 4) .ellipsis := SBk s7 (by omega) (SBk s6 (by omega) (SBk s5 (by omega) (SBk s4 (by omega) (SBk s3 (by omega) (SBk s2 (by omega) z1)))))
  have zl : n + 5 < h7.objs.size := Heap.lt_size z7
  show wpAny _ _ (Builtin.SmallTypes.ownedTupleHandOut (.ref (n + 5)) (.ref h7.objs.size) >>= _) _ _ _
  unfold Builtin.SmallTypes.ownedTupleHandOut
  have z8 : IsZip (h7.push { cls := .type "tuple", data := .seq #[x, y, v] }) (n + 5) (n + 3) (n + 4) .ellipsis := Heap.get?_push_of_some _ z7
  refine wpAny_bind (wpAny_bind (wpAny_setField_rec z8 (by simp) fun h9 z9 s9 => ?_))
  have z9 : IsZip h9 (n + 5) (n + 3) (n + 4) (rawInt h7.objs.size) := z9
  refine wpAny_setField_rec z9 (by simp) fun ha za sa => wpAny_pure ⟨_, rfl, ?_⟩
  have za : IsZip ha (n + 5) (n + 3) (n + 4) (rawInt h7.objs.size) := za
  have ff : ∀ {d : Nat} {o : Obj}, d ≠ n + 5 → h7.get? d = some o → ha.get? d = some o := fun q e => SBk sa q (SBk s9 q (Heap.get?_push_of_some _ e))
  have tT : IsTrip ha h7.objs.size x y v := SBk sa (by omega) (SBk s9 (by omega) (Heap.get?_push_size _ rfl))
  have sz : ha.objs.size = h7.objs.size + 1 := by rw [sa.1, s9.1, Heap.size_push]
  rw [hs] at za tT sz
  show Q (.ref h7.objs.size) _
  rw [hs]
  refine hQ ha ⟨za, ff (by omega) (f7 (by omega) (by omega) (by omega) (by omega) (by omega) hi), ff (by omega) o7, ?_, ?_, ?_⟩ tT sz fun (d : Nat) o q e => ff (by omega) (f7 (by omega) (by omega) (by omega) (by omega) (by omega) e)
  · exact j1.at fun o e => ff (by omega) (SBk s7 (by omega) (SBk s6 (by omega) (SBk s5 (by omega) (SBk s4 (by omega) (SBk s3 (by omega) e)))))
  · exact j2.at fun o e => ff (by omega) (SBk s7 (by omega) (SBk s6 (by omega) (SBk s5 (by omega) e)))
  · exact j3.at fun o e => ff (by omega) (SBk s7 (by omega) e)
theorem next3_end {Q : Fin → Shared → Prop} (hh : A.handled = none) (Z : Z3 s.heap n l1 l2 l3 k .none a b c) (b1 : l1 < n) (e1 : s.heap.IsList l1 xs) (hx : xs[k]? = none)
    (hE : ∀ (h' : Heap) (e : Nat), (∀ (d : Nat) (o : Obj), (d < n ∨ n + 5 < d) → s.heap.get? d = some o → h'.get? d = some o) → (∃ o, h'.get? e = some o ∧ o.cls = .type "StopIteration") → E (.ref e) { s with heap := h' }) :
    wpAny (model prog w) A (Builtin.«zip.__next__» ⟨[.ref (n + 5)], []⟩) Q E s := by
  obtain ⟨hz, hi, ho, i1, i2, i3⟩ := Z
  show wpAny _ _ (field (.ref (n + 5)) 2 >>= _) _ _ _
  refine wpAny_bind (wpAny_field hz rfl (x := .bool false) rfl ?_)
  show wpAny _ _ (field (.ref (n + 5)) 3 >>= _) _ _ _
  refine wpAny_bind (wpAny_field hz rfl (x := .ref (n + 3)) rfl (wpAny_bind (wpAny_seqItems hi rfl ?_)))
  show wpAny _ _ (Builtin.SmallTypes.ownedTupleIsFree (.ref (n + 5)) >>= _) _ _ _
  unfold Builtin.SmallTypes.ownedTupleIsFree
  refine wpAny_bind (wpAny_bind (wpAny_field hz rfl (x := .none) rfl (wpAny_pure ?_)))
  simp only [if_true]
  refine wpAny_bind (wpAny_rule (wpAny_bind (wpAny_field hz rfl (x := .ref (n + 4)) rfl (wpAny_bind (wpAny_setField_rec hz (by simp) fun h1 z1 s1 => wpAny_bind ?_)))))
  simp only [List.zipIdx_cons, List.zipIdx_nil, List.forIn_cons, List.forIn_nil]
  refine wpAny_bind (wpAny_bind (wpAny_onRaise ?_))
  show wpAny _ _ (Builtin.SmallTypes.nextOf (.ref n) >>= _) _ _ _
  refine wpAny_bind (wpAny_nextOf_list_end hh (i1.at fun o e => SBk s1 (by omega) e) (LBk s1 (by omega) e1) hx fun h2 e s2 he => ?_)
  obtain ⟨oe, ge, ce⟩ := he
  have z2 : IsZip h2 (n + 5) (n + 3) (n + 4) .ellipsis := EBk s2 (by omega) z1
  have ne : e ≠ n + 5 := fun q => by
    subst q
    rw [z2] at ge
    cases ge
    simp at ce
  exact wpAny_setField_rec z2 (by simp) fun h3 _ s3 => hE h3 e (fun (d : Nat) o q g => SBk s3 (by omega) (EBk s2 (by omega) (SBk s1 (by omega) g))) ⟨oe, SBk s3 ne ge, ce⟩
end
end DL
end

/-! text DM5 -/
section
set_option maxRecDepth 100000
set_option maxHeartbeats 4000000
/-! zip of three lists of one length: made, walked, read -/
namespace DL
open PySem PySem.Spec PyProof.Rows L2
theorem ty_zip3 (a b c : Value) : checkTypeCall "zip" ⟨[a, b, c], []⟩ = pure () := by kernel_rfl
theorem nw_zip3 (a b c : Value) : checkBuiltinCall "zip.__new__" ⟨[.type "zip", a, b, c], []⟩ = pure () := by kernel_rfl
theorem ar_init4 (a b c d : Value) : argsOk "object.__init__" ⟨[a, b, c, d], []⟩ := by
  unfold argsOk; rw [signature?_of (id := "object.__init__") (n := ['_', '_', 't', 'i', 'n', 'i', '_', '_']) (o := ['t', 'c', 'e', 'j', 'b', 'o']) (by kernel_rfl) PySem.F.owner_object]; kernel_rfl
abbrev itO (l : Nat) : Obj := { cls := .type "list_iterator", data := .fields #[.ref l, .int 0 0] }
abbrev tpO (vs : Array Value) : Obj := { cls := .type "tuple", data := .seq vs }
abbrev H3 (h : Heap) (l1 l2 l3 : Nat) : Heap := ((h.push (itO l1)).push (itO l2)).push (itO l3)
abbrev H4 (h : Heap) (l1 l2 l3 : Nat) : Heap := (H3 h l1 l2 l3).push (tpO #[.ref h.objs.size, .ref (h.push (itO l1)).objs.size, .ref ((h.push (itO l1)).push (itO l2)).objs.size])
abbrev H5 (h : Heap) (l1 l2 l3 : Nat) : Heap := (H4 h l1 l2 l3).push (tpO #[.none, .none, .none])
abbrev H6 (h : Heap) (l1 l2 l3 : Nat) : Heap := (H5 h l1 l2 l3).push { cls := .type "zip", data := .fields #[.none, .bool false, .bool false, .ref (H3 h l1 l2 l3).objs.size, .ref (H4 h l1 l2 l3).objs.size] }
theorem mt_zip3 (l1 l2 l3 : Nat) (xs ys vs : Array Value) :
    Meets (Builtin.«zip.__new__» ⟨[.type "zip", .ref l1, .ref l2, .ref l3], []⟩) (fun _ R s => s.heap.IsList l1 xs ∧ s.heap.IsList l2 ys ∧ s.heap.IsList l3 vs ∧ R (.ok (.ret (.ref (H5 s.heap l1 l2 l3).objs.size))) { s with heap := H6 s.heap l1 l2 l3 }) :=
  .of_wp fun prog w A R s h => by
    obtain ⟨hp, g, d, tk, os⟩ := s
    obtain ⟨e1, e2, e3, h⟩ := h
    have hsub := sub_zip
    have k1 : Heap.IsList (Shared.heap ⟨hp, g, d, tk, os⟩) l1 xs := e1
    have k2 : Heap.IsList (Shared.heap ⟨hp.push (itO l1), g, d, tk, os⟩) l2 ys := Heap.IsList.push e2 _
    have k3 : Heap.IsList (Shared.heap ⟨(hp.push (itO l1)).push (itO l2), g, d, tk, os⟩) l3 vs := Heap.IsList.push (Heap.IsList.push e3 _) _
    wp_walk using wpAny_pyIter_list k1, wpAny_pyIter_list k2, wpAny_pyIter_list k3
    exact ⟨_, rfl, h⟩
section
variable {prog : Program} {w : World} {A : Around} {E : Value → Shared → Prop} {s : Shared} {n l1 l2 l3 : Nat} {k : Nat} {a b c x y v : Value} {xs ys vs : Array Value}
theorem call_zip3 {Q : Value → Shared → Prop} (e1 : s.heap.IsList l1 xs) (e2 : s.heap.IsList l2 ys) (e3 : s.heap.IsList l3 vs) (h : ∀ h', Z3 h' s.heap.objs.size l1 l2 l3 0 .none .none .none .none → h'.objs.size = s.heap.objs.size + 6 → (∀ (d : Nat) (o : Obj), s.heap.get? d = some o → h'.get? d = some o) → Q (.ref (s.heap.objs.size + 5)) { s with heap := h' }) :
    wpAny (model prog w) A (call (.type "zip") [.ref l1, .ref l2, .ref l3]) Q E s := by
  refine callType_new F.called_zip (by decide) (ty_zip3 _ _ _) (nw_zip3 _ _ _) (fun obj => ar_init4 obj _ _ _) F.entry_zip_new (mt_zip3 l1 l2 l3 xs ys vs) ⟨e1, e2, e3, ?_⟩
  have z1 : (s.heap.push (itO l1)).objs.size = s.heap.objs.size + 1 := Heap.size_push ..
  have z2 : ((s.heap.push (itO l1)).push (itO l2)).objs.size = s.heap.objs.size + 2 := by rw [Heap.size_push, z1]
  have z3 : (H3 s.heap l1 l2 l3).objs.size = s.heap.objs.size + 3 := by rw [Heap.size_push, z2]
  have z4 : (H4 s.heap l1 l2 l3).objs.size = s.heap.objs.size + 4 := by rw [Heap.size_push, z3]
  have z5 : (H5 s.heap l1 l2 l3).objs.size = s.heap.objs.size + 5 := by rw [Heap.size_push, z4]
  have z6 : (H6 s.heap l1 l2 l3).objs.size = s.heap.objs.size + 6 := by rw [Heap.size_push, z5]
  have g6 : (H6 s.heap l1 l2 l3).get? (H5 s.heap l1 l2 l3).objs.size = some _ := Heap.get?_push_size _ rfl
  have g5 : (H6 s.heap l1 l2 l3).get? (H4 s.heap l1 l2 l3).objs.size = some _ := Heap.get?_push_of_some _ (Heap.get?_push_size _ rfl)
  have g4 : (H6 s.heap l1 l2 l3).get? (H3 s.heap l1 l2 l3).objs.size = some _ := Heap.get?_push_of_some _ (Heap.get?_push_of_some _ (Heap.get?_push_size _ rfl))
  have p3 : ∀ {d : Nat} {o : Obj}, (H3 s.heap l1 l2 l3).get? d = some o → (H6 s.heap l1 l2 l3).get? d = some o := fun e => Heap.get?_push_of_some _ (Heap.get?_push_of_some _ (Heap.get?_push_of_some _ e))
  have g3 : (H6 s.heap l1 l2 l3).get? ((s.heap.push (itO l1)).push (itO l2)).objs.size = some _ := p3 (Heap.get?_push_size _ rfl)
  have g2 : (H6 s.heap l1 l2 l3).get? (s.heap.push (itO l1)).objs.size = some _ := p3 (Heap.get?_push_of_some _ (Heap.get?_push_size _ rfl))
  have g1 : (H6 s.heap l1 l2 l3).get? s.heap.objs.size = some _ := p3 (Heap.get?_push_of_some _ (Heap.get?_push_of_some _ (Heap.get?_push_size _ rfl)))
  show _ ∧ _
  rw [z3, z4, z5] at g6
  rw [z1, z2, z3] at g4
  rw [z4] at g5
  rw [z2] at g3
  rw [z1] at g2
  rw [z5]
  exact ⟨⟨_, g6, rfl⟩, h _ ⟨g6, g4, g5, ⟨_, g1, rfl, rfl⟩, ⟨_, g2, rfl, rfl⟩, ⟨_, g3, rfl, rfl⟩⟩ z6 fun d o e => p3 (Heap.get?_push_of_some _ (Heap.get?_push_of_some _ (Heap.get?_push_of_some _ e)))⟩
theorem py3_item {Q : Option Value → Shared → Prop} (Z : Z3 s.heap n l1 l2 l3 k .none a b c) (b1 : l1 < n) (b2 : l2 < n) (b3 : l3 < n) (e1 : s.heap.IsList l1 xs) (e2 : s.heap.IsList l2 ys) (e3 : s.heap.IsList l3 vs) (hx : xs[k]? = some x) (hy : ys[k]? = some y) (hv : vs[k]? = some v)
    (hQ : ∀ h', Z3 h' n l1 l2 l3 (k + 1) (rawInt s.heap.objs.size) x y v → IsTrip h' s.heap.objs.size x y v → h'.objs.size = s.heap.objs.size + 1 → (∀ (d : Nat) (o : Obj), (d < n ∨ n + 5 < d) → s.heap.get? d = some o → h'.get? d = some o) → Q (some (.ref s.heap.objs.size)) { s with heap := h' }) :
    wpAny (model prog w) A (pyNext (.ref (n + 5))) Q E s := by
  have hT : s.TypeIs (.ref (n + 5)) "zip" := ⟨_, Z.z, rfl⟩
  unfold pyNext
  refine wpAny_bind (wpAny_attempt (wpAny_callSpecial?_slot (name := Str.ofString "__next__") hT F.slot_zip_next (wpAny_call_entry F.slot_zip_next hT F.entry_zip_next ?_ (F.args_zip_next_1 _))))
  exact next3_item Z b1 b2 b3 e1 e2 e3 hx hy hv fun h' q1 q2 q3 q4 => wpAny_pure (hQ h' q1 q2 q3 q4)
theorem py3_end {Q : Option Value → Shared → Prop} (hh : A.handled = none) (Z : Z3 s.heap n l1 l2 l3 k .none a b c) (b1 : l1 < n) (e1 : s.heap.IsList l1 xs) (hx : xs[k]? = none)
    (hQ : ∀ h', (∀ (d : Nat) (o : Obj), (d < n ∨ n + 5 < d) → s.heap.get? d = some o → h'.get? d = some o) → Q none { s with heap := h' }) : wpAny (model prog w) A (pyNext (.ref (n + 5))) Q E s := by
  have hT : s.TypeIs (.ref (n + 5)) "zip" := ⟨_, Z.z, rfl⟩
  unfold pyNext
  refine wpAny_bind (wpAny_attempt (wpAny_callSpecial?_slot (name := Str.ofString "__next__") hT F.slot_zip_next (wpAny_call_entry F.slot_zip_next hT F.entry_zip_next (next3_end hh Z b1 e1 hx fun h' e q he => ?_) (F.args_zip_next_1 _))))
  obtain ⟨o, ho, hc⟩ := he
  exact wpAny_bind (wpAny_isInstance (T := "StopIteration") (b := true) ⟨o, ho, hc⟩ isSubtype_stop (wpAny_pure (hQ _ q)))
end
/-- the three lists as they stand at each turn, the items in new tuples of three -/
def Itz3 (K : PySem.W.Frag) (l1 l2 l3 : Nat) : It :=
  ⟨fun i H => ∃ (xs ys vs : List V) (x y v : V), SqL K H l1 xs ∧ SqL K H l2 ys ∧ SqL K H l3 vs ∧ xs[i]? = some x ∧ ys[i]? = some y ∧ vs[i]? = some v,
    fun i H u H' => ∃ T x y v, u = .ref T ∧ H T = none ∧ H' = upd H T (.tup [x, y, v]) ∧ (∀ xs, SqL K H l1 xs → xs[i]? = some x) ∧ (∀ ys, SqL K H l2 ys → ys[i]? = some y) ∧ ∀ vs, SqL K H l3 vs → vs[i]? = some v,
    fun i H => ∃ xs : List V, SqL K H l1 xs ∧ xs.length ≤ i⟩
abbrev fp3 (n : Nat) : List Nat := [n, n + 1, n + 2, n + 3, n + 4, n + 5]
theorem fp3_mem {n c : Nat} : c ∈ fp3 n ↔ n ≤ c ∧ c ≤ n + 5 := by
  simp only [fp3, List.mem_cons, List.not_mem_nil, or_false]
  omega
theorem turn_zip3 {P : Program} {w : World} {K : PySem.W.Frag} {elts : List Expr} {kk : Nat} {tpos : Pos} {n l1 l2 l3 : Nat} (b1 : l1 < n) (b2 : l2 < n) (b3 : l3 < n) :
    Turn P w K (.Tuple elts kk tpos) (Itz3 K l1 l2 l3) (fp3 n) (n + 5) (fun i h => ∃ a b c, Z3 h n l1 l2 l3 i .none a b c) where
  mem := fp3_mem.mpr (by omega)
  obj := fun i h st (c : Nat) hc => by
    obtain ⟨a, b, d, Z⟩ := st
    have r := fp3_mem.mp hc
    have cs : c = n ∨ c = n + 1 ∨ c = n + 2 ∨ c = n + 3 ∨ c = n + 4 ∨ c = n + 5 := by omega
    have it : ∀ {j l : Nat}, h.IsListIter j l i → ∃ o, h.get? j = some o ∧ ∀ v, o.data ≠ .cell v := fun ⟨o, g, _, q⟩ => ⟨o, g, fun v z => by rw [q] at z; cases z⟩
    rcases cs with rfl | rfl | rfl | rfl | rfl | rfl
    · exact it Z.i1
    · exact it Z.i2
    · exact it Z.i3
    · exact ⟨_, Z.ti, fun v z => nomatch z⟩
    · exact ⟨_, Z.to, fun v z => nomatch z⟩
    · exact ⟨_, Z.z, fun v z => nomatch z⟩
  keep := fun i h h' st q => by
    obtain ⟨a, b, d, Z⟩ := st
    have m : ∀ j, j ≤ 5 → n + j ∈ fp3 n := fun j hj => fp3_mem.mpr (by omega)
    exact ⟨a, b, d, q _ (m 5 (by omega)) _ Z.z, q _ (m 3 (by omega)) _ Z.ti, q _ (m 4 (by omega)) _ Z.to, Z.i1.at fun o e => q _ (m 0 (by omega)) o e, Z.i2.at fun o e => q _ (m 1 (by omega)) o e, Z.i3.at fun o e => q _ (m 2 (by omega)) o e⟩
  item := by
    intro X hP hw hK hc i pins s σ H E I hf st hg
    subst hP hw hK
    obtain ⟨a, b, d, Z⟩ := st
    obtain ⟨xs, ys, vs, x, y, v, q1, q2, q3, g1, g2, g3⟩ := hg
    obtain ⟨us, r1, p1, _⟩ := I.list q1
    obtain ⟨us2, r2, p2, _⟩ := I.list q2
    obtain ⟨us3, r3, p3, _⟩ := I.list q3
    obtain ⟨u1, m1, t1⟩ := r1.get g1
    obtain ⟨u2, m2, t2⟩ := r2.get g2
    obtain ⟨u3, m3, t3⟩ := r3.get g3
    have zl : n + 5 < s.heap.objs.size := Heap.lt_size Z.z
    refine py3_item Z b1 b2 b3 p1.isList p2.isList p3.isList (x := u1) (y := u2) (v := u3) (by simpa using m1) (by simpa using m2) (by simpa using m3) fun h' Z' T' sz fr => ?_
    refine ⟨_, rfl, wpAny_letOwnedTupleGo_zip (s := { s with heap := h' }) Z'.z fun h2 z2 sb => ?_⟩
    have T2 : h2.get? s.heap.objs.size = some { cls := .type "tuple", data := .seq #[u1, u2, u3] } := SBk sb (by omega) T'
    have new : ObjOk X.prog X.w (upd H s.heap.objs.size (.tup [x, y, v])) h2 s.heap.objs.size (.tup [x, y, v]) := ⟨by show 3 ≤ sizeLine; decide, [u1, u2, u3], .cons t1 (.cons t2 (.cons t3 .nil)), ⟨_, T2, rfl, _, rfl⟩⟩
    have I1 : Inv X pins σ (upd H s.heap.objs.size (.tup [x, y, v])) { s with heap := h2 } := I.turnedNew (t' := s.toks) (ch := fp3 n) (fun (j : Nat) o hb e => by
      have hb : ¬ (n ≤ j ∧ j ≤ n + 5) := fun z => hb (fp3_mem.mpr z)
      exact SBk sb (by omega) (fr j o (by omega) e)) hf (Nat.le_refl _) new
    refine ⟨.ref s.heap.objs.size, _, I1, rfl, ⟨_, x, y, v, rfl, I.hok.fresh (Nat.le_refl _), rfl, fun l hl => by rw [I.list_inj hl q1]; exact g1, fun l hl => by rw [I.list_inj hl q2]; exact g2, fun l hl => by rw [I.list_inj hl q3]; exact g3⟩, ⟨u1, u2, u3, z2, SBk sb (by omega) Z'.ti, SBk sb (by omega) Z'.to, Z'.i1.at fun o e => SBk sb (by omega) e, Z'.i2.at fun o e => SBk sb (by omega) e, Z'.i3.at fun o e => SBk sb (by omega) e⟩, fun (j : Nat) hj => ?_⟩
    have r := fp3_mem.mp hj
    have ne : s.heap.objs.size ≠ j := by omega
    rw [upd_ne ne.symm]
    exact (hf j hj).1
  done := by
    intro X hP hw hK hc i pins s σ H E I hf st hg
    subst hP hw hK
    obtain ⟨a, b, d, Z⟩ := st
    obtain ⟨xs, q1, hl⟩ := hg
    obtain ⟨us, r1, p1, _⟩ := I.list q1
    have l1 := r1.length
    refine py3_end (I.ok.hd hc) Z b1 p1.isList (by simp; omega) fun h' fr => ⟨rfl, I.turnedL (t' := s.toks) (ch := fp3 n) (fun (j : Nat) o hb e => ?_) hf⟩
    have hb : ¬ (n ≤ j ∧ j ≤ n + 5) := fun z => hb (fp3_mem.mpr z)
    exact fr j o (by omega) e
  self := fun A i s Q E st h => by
    obtain ⟨a, b, d, Z⟩ := st
    exact wpAny_pyIter_zip Z.z h
def iZip3 (K : PySem.W.Frag) (ta : TA) : TI := fun σ H R => ta σ H fun us H1 => ∃ l1 l2 l3 xs ys vs, us = [.ref l1, .ref l2, .ref l3] ∧ SqL K H1 l1 xs ∧ SqL K H1 l2 ys ∧ SqL K H1 l3 vs ∧ R (Itz3 K l1 l2 l3) H1
theorem pi_zip3 {X : Cx} {e e2 e3 : Expr} {ta : TA} {p pos tpos : Pos} {elts : List Expr} {kk : Nat} (hg : Gl X "zip") (hm : X.mg "zip" = none) (ha : PA X [e, e2, e3] ta)
    (hs : starEach [e, e2, e3] X.env = (false, eval e X.env) :: starEach [e2, e3] X.env := by rfl) (hpl : (backTo pos (starEach [e2, e3] X.env)).any (·.1) = false := by rfl) :
    PI X (.Tuple elts kk tpos) (.Call (.Name "zip" p) [e, e2, e3] [] pos) (iZip3 X.K ta) := by
  refine ⟨fun pins s σ H R I h => ?_⟩
  refine Call_ (ld_blt I hg hm PyProof.Rows.boot_zip (PyProof.Rows.callWith_type1 (thn (ha.run pos pins s σ H _ I h) fun us s1 ⟨vs, H1, I1, r1, q1⟩ => ?_) hs hpl))
  obtain ⟨l1, l2, l3, xs, ys, vs, ex, q1, q2, q3, q⟩ := q1
  subst ex
  cases r1 with
  | cons a1 r1 => cases r1 with
    | cons a2 r1 => cases r1 with
      | cons a3 r1 =>
        cases r1
        cases a1
        cases a2
        cases a3
        obtain ⟨us, _, p1, _⟩ := I1.list q1
        obtain ⟨us2, _, p2, _⟩ := I1.list q2
        obtain ⟨us3, _, p3, _⟩ := I1.list q3
        refine call_zip3 p1.isList p2.isList p3.isList fun h' Z sz fr => wpAny_pyIter_zip Z.z ?_
        have I2 : Inv X pins σ H1 { s1 with heap := h' } := I1.kept (t' := s1.toks) fr
        refine ⟨s1.heap.objs.size + 5, fp3 s1.heap.objs.size, _, _, H1, rfl, I2, turn_zip3 p1.lt p2.lt p3.lt, ⟨_, _, _, Z⟩, fun (c : Nat) hc => ?_, q⟩
        have r := fp3_mem.mp hc
        exact I1.fpOk r.1 (I1.hok.fresh r.1)
section
variable {C : Cxt} {W : Wx} {F F' H H' : Hp} {Γ : List Md} {σ : L2.St} {ρ : EnvD} {L : List Ent} {m ma mb mc mr : Md} {d : DV} {v : V} {st : Bool}
def zipD3 (xs ys vs : List DV) : List DV := (xs.zip (ys.zip vs)).map fun p => .tup [p.1, p.2.1, p.2.2]
def dZip3 : List DV → Rs (List DV)
  | [.lst xs, .lst ys, .lst vs] => if xs.length = ys.length ∧ xs.length = vs.length then .ok (zipD3 xs ys vs) else .stuck
  | _ => .stuck
def gZip3 (g : GA) : GI := fun ρ => (g ρ).bind dZip3
theorem zipD3_len {xs ys vs : List DV} (h : xs.length = ys.length ∧ xs.length = vs.length) : (zipD3 xs ys vs).length = xs.length := by
  unfold zipD3
  rw [List.length_map, List.length_zip, List.length_zip]
  omega
theorem zipD3_get {xs ys vs : List DV} {i : Nat} {d : DV} (h : (zipD3 xs ys vs)[i]? = some d) : ∃ x y v, xs[i]? = some x ∧ ys[i]? = some y ∧ vs[i]? = some v ∧ d = .tup [x, y, v] := by
  unfold zipD3 at h
  rw [List.getElem?_map] at h
  cases e : (xs.zip (ys.zip vs))[i]? with
  | none => rw [e] at h; cases h
  | some p =>
    rw [e] at h
    cases h
    obtain ⟨h1, h2⟩ := List.getElem?_zip_eq_some.mp e
    obtain ⟨h3, h4⟩ := List.getElem?_zip_eq_some.mp h2
    exact ⟨p.1, p.2.1, p.2.2, h1, h3, h4, rfl⟩
theorem si_zip3 {t : TA} {g : GA} (h : SA C W Γ t g [ma, mb, mc]) (qa : ma.ixok = true := by rfl) (qb : mb.ixok = true := by rfl) (qc : mc.ixok = true := by rfl) (ka : ma.kid = .fr := by rfl) (kb : mb.kid = .fr := by rfl) (kc : mc.kid = .fr := by rfl) (sa : ma.stor = true := by rfl) (sb : mb.stor = true := by rfl) (sc : mc.stor = true := by rfl) : SI C W Γ (iZip3 C.K t) (gZip3 g) .fr st := by
  intro F H σ ρ L R hL r k
  show t σ H fun us H1 => ∃ l1 l2 l3 xs ys vs, us = [.ref l1, .ref l2, .ref l3] ∧ SqL C.K H1 l1 xs ∧ SqL C.K H1 l2 ys ∧ SqL C.K H1 l3 vs ∧ R (Itz3 C.K l1 l2 l3) H1
  refine h F H σ ρ L _ hL r ?_
  unfold gZip3 at k
  revert k
  cases g ρ with
  | ex c d => exact fun k => k
  | stuck => exact fun k => k
  | ok ds =>
    intro k F1 H1 vs s1 s2 e1 e2 r1
    match vs, ds, e1, e2, r1, k with
    | [x, y, z], [dx, dy, dz], _, _, r1, k =>
      cases dx with
      | lst xs =>
        cases dy with
        | lst ys =>
          cases dz with
          | lst ws =>
            have r1 : Rep C F1 H1 Γ σ ρ ((mc, .lst ws, z) :: (mb, .lst ys, y) :: (ma, .lst xs, x) :: L) := r1
            have k : PI' C W Γ F H σ ρ L .fr st R (if xs.length = ys.length ∧ xs.length = ws.length then .ok (zipD3 xs ys ws) else .stuck) := k
            by_cases hl : xs.length = ys.length ∧ xs.length = ws.length
            case neg => rw [if_neg hl] at k; exact k.elim
            rw [if_pos hl] at k
            obtain ⟨l1, v1, h1, h2, h3⟩ := r1.tail.tail.items qa
            obtain ⟨l2, v2, g1, g2, g3⟩ := r1.tail.items qb
            obtain ⟨l3, v3, f1, f2, f3⟩ := r1.items qc
            refine ⟨l1, l2, l3, v1, v2, v3, by rw [h1, g1, f1], h2.1, g2.1, f2.1, ?_⟩
            refine k F1 H1 (Itz3 C.K l1 l2 l3) [(mc, .lst ws, z), (mb, .lst ys, y), (ma, .lst xs, x)] s1 s2 (fun _ => storL_cons sc (storL_cons sb (storL_cons sa rfl))) (fun e he => ?_) r1 ?_
            · rcases List.mem_cons.mp he with q | he
              · subst q; exact ⟨ixok_free qc, r1.free (ixok_free qc)⟩
              · rcases List.mem_cons.mp he with q | q
                · subst q; exact ⟨ixok_free qb, r1.tail.free (ixok_free qb)⟩
                · obtain rfl := List.mem_singleton.mp q
                  exact ⟨ixok_free qa, r1.tail.tail.free (ixok_free qa)⟩
            · intro i F2 H2 Γ2 σ2 ρ2 L2 r2
              have r2 : Rep C F2 H2 Γ2 σ2 ρ2 ((mc, .lst ws, z) :: (mb, .lst ys, y) :: (ma, .lst xs, x) :: L2) := r2
              obtain ⟨m1, w1, i1, i2, i3⟩ := r2.tail.tail.items qa
              obtain ⟨m2, w2, j1, j2, j3⟩ := r2.tail.items qb
              obtain ⟨m3, w3, k1, k2, k3⟩ := r2.items qc
              have ea : m1 = l1 := by rw [h1] at i1; cases i1; rfl
              have eb : m2 = l2 := by rw [g1] at j1; cases j1; rfl
              have ec : m3 = l3 := by rw [f1] at k1; cases k1; rfl
              subst ea
              subst eb
              subst ec
              refine ⟨fun hn => ⟨w1, i2.1, by rw [zipD3_len hl] at hn; rw [← i3.length]; omega⟩, fun d hd => ?_⟩
              obtain ⟨dx, dy, dz, e1, e2, e3, rfl⟩ := zipD3_get hd
              obtain ⟨p1, u1, u2⟩ := i3.nil_get e1
              obtain ⟨p2, u3, u4⟩ := j3.nil_get e2
              obtain ⟨p3, u5, u6⟩ := k3.nil_get e3
              refine ⟨⟨w1, w2, w3, p1, p2, p3, i2.1, j2.1, k2.1, u1, u3, u5⟩, fun q H' hy => ?_⟩
              obtain ⟨T, a, b, c, rfl, hT, rfl, y1, y2, y3⟩ := hy
              have ep : a = p1 := Option.some.inj ((y1 w1 i2.1).symm.trans u1)
              have eq : b = p2 := Option.some.inj ((y2 w2 j2.1).symm.trans u3)
              have er : c = p3 := Option.some.inj ((y3 w3 k2.1).symm.trans u5)
              subst ep
              subst eq
              subst er
              rw [ka] at u2
              rw [kb] at u4
              rw [kc] at u6
              have r3 : Rep C F2 H2 Γ2 σ2 ρ2 (entsA [.fr, .fr, .fr] [dx, dy, dz] [a, b, c] ((mc, .lst ws, z) :: (mb, .lst ys, y) :: (ma, .lst xs, x) :: L2)) := ((r2.cons0 u2).cons0 u4).cons0 u6
              obtain ⟨sf, r4⟩ := r3.tuple (m := .fr) (by decide) rfl rfl hT
              obtain ⟨F3, s3, r5⟩ := r4.freeze rfl
              exact ⟨F3, sf.trans s3, same_upd hT, r5⟩
          | _ => exact k.elim
        | _ => cases dz <;> exact k.elim
      | _ => cases dy <;> cases dz <;> exact k.elim
end
end DL
end

/-! text DLI -/
section
set_option maxRecDepth 100000
set_option maxHeartbeats 4000000
/-! the head of a law without imports whose program has own exceptions: the root's __init__ is looked at, too -/
namespace DL
open PySem PySem.Spec PyProof.Rows L2
abbrev AlY : Type := He.AlD × IniW
def obsYG (n : Nat) (qs : Qs) (fn : List He.DefD) (x : Str) (g : Addr → Option Obj) : AlY := (obsX qs fn (He.frG g (cStatics :: He.asD g n)), iniW (He.frG g (cStatics :: He.asD g n)) x)
def hookY (n : Nat) (qs : Qs) (fn : List He.DefD) (x : Str) (v : IniW) : PySem.W.Hook where
  α := AlY
  obs := fun s => obsYG n qs fn x s.heap.get?
  val := fun _ => (He.valD fn, v)
  says := fun _ h => ∃ K : PySem.W.Frag, K.In h ∧ SaysX qs fn K ∧ iniW K x = v
  of := fun _ _ e => ⟨_, He.frG_in, congrArg Prod.fst e, congrArg Prod.snd e⟩
  keeps := fun _ _ _ ⟨K, hK, c⟩ k => ⟨K, PySem.W.Frag.In.keeps hK k, c⟩
theorem obsYG_eq {n : Nat} {qs : Qs} {fn : List He.DefD} {x : Str} {v : IniW} {g : Addr → Option Obj} {s : Shared} (h : ∀ a, g a = s.heap.get? a) : obsYG n qs fn x g = (hookY n qs fn x v).obs s := by
  have e : g = s.heap.get? := funext h
  rw [e] <;> rfl
end DL
end

/-! text ML -/
section
set_option maxRecDepth 100000
set_option maxHeartbeats 4000000
/-! plain laws, part 0: what the mirrors compute at ints; loops -/
namespace DL
open PySem L2
theorem sz_eq : sizeLine = 16777216 := by decide
theorem dII_ok {p : Int → Int → Bool} {g : Int → Int → DV} {i j : Int} (h : p i j = true) : dII p g (.int i) (.int j) = .ok (g i j) := if_pos h
theorem opOr_l {f g : OpD} {x y d : DV} (h : f x y = .ok d) : opOr f g x y = .ok d := by
  unfold opOr
  rw [h]
section
variable {i j : Int}
theorem dAdd_i : dAdd (.int i) (.int j) = .ok (.int (i + j)) := rfl
theorem dSub_i : dSub (.int i) (.int j) = .ok (.int (i - j)) := rfl
theorem dMul_i (h : mulOk i j = true) : dMul (.int i) (.int j) = .ok (.int (i * j)) := if_pos h
theorem dLt_i : dLt (.int i) (.int j) = .ok (.bl (decide (i < j))) := rfl
theorem dLe_i : dLe (.int i) (.int j) = .ok (.bl (decide (i ≤ j))) := rfl
theorem dGt_i : dGt (.int i) (.int j) = .ok (.bl (decide (j < i))) := rfl
theorem dGe_i : dGe (.int i) (.int j) = .ok (.bl (decide (j ≤ i))) := rfl
theorem dNeg_i : dNeg (.int i) = .ok (.int (-i)) := rfl
theorem dInt_i : dInt [.int i] = .ok (.int i) := rfl
theorem dMod_i (h : 0 < j) : dMod (.int i) (.int j) = .ok (.int (i % j)) := opOr_l (dII_ok (decide_eq_true h))
theorem dDiv_i (h : 0 < j) (h2 : j.natAbs.log2 < 9000) : dDiv (.int i) (.int j) = .ok (.int (i / j)) := opOr_l (dII_ok (by
  unfold divOk
  rw [decide_eq_true h, decide_eq_true h2]
  rfl))
theorem eqv_i : eqv (.int i) (.int j) = decide (i = j) := by
  unfold eqv py
  first
    | rfl
    | (unfold PyData.eqv; rfl)
theorem dEq_i : dEq (.int i) (.int j) = .ok (.bl (decide (i = j))) := by
  unfold dEq
  rw [if_pos (by rfl), eqv_i]
theorem dNe_i : dNe (.int i) (.int j) = .ok (.bl (!decide (i = j))) := by
  unfold dNe
  rw [if_pos (by rfl), eqv_i]
end
/-! evaluation -/
section
variable {ρ : EnvD} {a b c : GE} {op op' : OpD} {g : GX} {ga gr : GA} {f k : GS} {t u : GT}
@[simp] theorem bind_o {α β : Type} {x : α} {h : α → Rs β} : (Rs.ok x).bind h = h x := rfl
@[simp] theorem bind_s {α β : Type} {h : α → Rs β} : (Rs.stuck : Rs α).bind h = .stuck := rfl
@[simp] theorem bind_e {α β : Type} {x : Str} {d : DV} {h : α → Rs β} : (Rs.ex x d : Rs α).bind h = .ex x d := rfl
@[simp] theorem ev_var {i : Nat} : gVar i ρ = lk ρ i := rfl
@[simp] theorem ev_c {d : DV} : gC d ρ = .ok d := rfl
@[simp] theorem ev_bin : gBin op a b ρ = (a ρ).bind fun x => (b ρ).bind fun y => op x y := rfl
@[simp] theorem ev_un {h : DV → Rs DV} : gUn h a ρ = (a ρ).bind h := rfl
@[simp] theorem ev_cb {o : OpA} : gCB o ga ρ = (ga ρ).bind o := rfl
@[simp] theorem ev_nil : aNil ρ = .ok [] := rfl
@[simp] theorem ev_cons : aCons a gr ρ = (a ρ).bind fun x => (gr ρ).bind fun xs => .ok (x :: xs) := rfl
@[simp] theorem ev_pure : gPure a ρ = (a ρ).bind fun d => .ok (d, ρ) := rfl
@[simp] theorem ev_b : gB a ρ = (a ρ).bind asB := rfl
@[simp] theorem ev_asB {z : Bool} : asB (.bl z) = .ok z := rfl
@[simp] theorem ev_next : gNext ρ = .nx ρ := rfl
@[simp] theorem ev_if : gIf t a b ρ = (t ρ).bind fun z => if z = true then a ρ else b ρ := rfl
@[simp] theorem ev_ifT {v : GT} : gIfT t u v ρ = (t ρ).bind fun z => if z = true then u ρ else v ρ := rfl
@[simp] theorem ev_not : gNot t ρ = (t ρ).bind fun z => .ok (!z) := rfl
@[simp] theorem ev_andV : gAndV a b ρ = ((a ρ).bind asB).bind fun z => if z = true then b ρ else .ok (.bl false) := rfl
@[simp] theorem ev_orV : gOrV a b ρ = ((a ρ).bind asB).bind fun z => if z = true then .ok (.bl true) else b ρ := rfl
@[simp] theorem ev_notV : gNotV a ρ = ((a ρ).bind asB).bind fun z => .ok (.bl (!z)) := rfl
@[simp] theorem ev_tup : eTup ga ρ = (ga ρ).bind fun ds => if ds.length ≤ sizeLine then .ok (.tup ds) else .stuck := rfl
@[simp] theorem ev_lst : eLst ga ρ = (ga ρ).bind fun ds => if ds.length ≤ sizeLine then .ok (.lst ds) else .stuck := rfl
@[simp] theorem lk_0 {d : DV} {r : EnvD} : lk (some d :: r) 0 = .ok d := rfl
@[simp] theorem lk_s {x : Option DV} {r : EnvD} {i : Nat} : lk (x :: r) (i + 1) = lk r i := rfl
theorem ev_seq {ρ' : EnvD} (h : f ρ = .nx ρ') : gSeq f k ρ = k ρ' := by
  unfold gSeq
  rw [h]
theorem ev_seqR {ρ' : EnvD} {d : DV} (h : f ρ = .rt d ρ') : gSeq f k ρ = .rt d ρ' := by
  unfold gSeq
  rw [h]
theorem ev_seqE {x : Str} {d : DV} (h : f ρ = .ex x d) : gSeq f k ρ = .ex x d := by
  unfold gSeq
  rw [h]
theorem ev_ifS {z : Bool} (h : t ρ = .ok z) : gIfS t f k ρ = if z = true then f ρ else k ρ := by
  unfold gIfS
  rw [h]
theorem ev_asg {i : Nat} {d : DV} {ρ' : EnvD} (h : g ρ = .ok (d, ρ')) : gAsg g (gtName i) ρ = .nx (ρ'.set i (some d)) := by
  unfold gAsg gtName
  rw [h]
theorem ev_ret {d : DV} {ρ' : EnvD} (h : g ρ = .ok (d, ρ')) : gRet g ρ = .rt d ρ' := by
  unfold gRet
  rw [h]
end
/-- a loop over a range, by an invariant of the number of turns done -/
theorem forG_rng {tg : GG} {b : GS} (I : Nat → EnvD → Prop) (hi : ∀ (i : Nat) (ρ : EnvD), I i ρ → ∃ ρ1 ρ2, tg (.int ((0 : Int) + (i : Int))) ρ = .ok ρ1 ∧ b ρ1 = .nx ρ2 ∧ I (i + 1) ρ2) :
    ∀ (n i : Nat) (ρ : EnvD), I i ρ → ∃ ρ', forG tg b ((List.range' i n).map fun k : Nat => DV.int ((0 : Int) + (k : Int))) ρ = .nx ρ' ∧ I (i + n) ρ'
  | 0, i, ρ, h => ⟨ρ, rfl, h⟩
  | n + 1, i, ρ, h => by
    obtain ⟨ρ1, ρ2, e1, e2, h2⟩ := hi i ρ h
    obtain ⟨ρ', e3, h3⟩ := forG_rng I hi n (i + 1) ρ2 h2
    refine ⟨ρ', ?_, by rw [show i + (n + 1) = i + 1 + n by omega]; exact h3⟩
    rw [List.range'_succ, List.map_cons]
    unfold forG
    rw [e1]
    dsimp only
    rw [e2]
    exact e3
theorem rngD_eq (n : Nat) : rngD 0 n = (List.range' 0 n).map fun k : Nat => DV.int ((0 : Int) + (k : Int)) := by
  unfold rngD
  rw [List.range_eq_range']
end DL
end

/-! text ML1 -/
section
set_option maxRecDepth 100000
set_option maxHeartbeats 4000000
/-! plain laws, part 1: lists of ints -/
namespace DL
open PySem
abbrev di (xs : List Int) : DV := .lst (xs.map DV.int)
theorem lcLoop_map {h : DV → Rs (Option DV)} {f : Int → Int} : ∀ {xs : List Int}, (∀ x ∈ xs, h (.int x) = .ok (some (.int (f x)))) → lcLoop h (xs.map DV.int) = .ok ((xs.map f).map DV.int)
  | [], _ => rfl
  | x :: xs, k => by
    rw [List.map_cons, List.map_cons, List.map_cons]
    unfold lcLoop
    rw [k x List.mem_cons_self]
    dsimp only [Rs.bind]
    rw [lcLoop_map (xs := xs) fun y hy => k y (List.mem_cons_of_mem _ hy)]
    rfl
theorem ixN_nat {n k : Nat} (h : k < n) : L2.ixN n (k : Int) = some k := by
  unfold L2.ixN
  simp
  omega
theorem dIx_i {xs : List Int} {k : Nat} (h : k < xs.length) : dIx (di xs) (.int (k : Int)) = .ok (.int xs[k]) := by
  unfold dIx L2.atI
  simp only [List.length_map]
  rw [ixN_nat h]
  simp [ofO, h]
theorem setD_i {xs : List Int} {k : Nat} {y : Int} (h : k < xs.length) : setD (di xs) (.int (k : Int)) (.int y) = .ok (di (xs.set k y)) := by
  unfold setD
  simp only [List.length_map]
  rw [ixN_nat h]
  simp [List.map_set]
theorem dLen_i {xs : List Int} : dLen [di xs] = .ok (.int xs.length) := by
  simp [dLen]
theorem imms_i (xs : List Int) : imms (xs.map DV.int) = true := by
  induction xs with
  | nil => rfl
  | cons x xs ih => exact (Bool.and_eq_true _ _).mpr ⟨rfl, ih⟩
theorem cut_front {xs : List DV} {n : Nat} : cutD xs none (some (n : Int)) = xs.take n := by
  unfold cutD
  rw [HT.sIx_none, HT.sIx_nat, List.drop_zero, Nat.sub_zero]
  by_cases h : n ≤ xs.length
  · rw [Nat.min_eq_left h]
  · rw [Nat.min_eq_right (by omega), List.take_length, List.take_of_length_le (by omega)]
theorem cut_last {xs : List DV} : cutD xs none (some (-1)) = xs.take (xs.length - 1) := by
  have e : HT.sIx xs.length xs.length (some (-1)) = xs.length - 1 := by
    unfold HT.sIx
    simp
    omega
  unfold cutD
  rw [e, HT.sIx_none, List.drop_zero, Nat.sub_zero]
end DL
end

/-! text ML3 -/
section
set_option maxRecDepth 100000
set_option maxHeartbeats 4000000
/-! data that repr shows and == compares, by its parts; in a namespace of its own -/
namespace SH
open PySem DL
theorem ok_mem {x : Str} : PyData.strOk x = true ↔ ∀ c ∈ x.cps.toList, c < 0x110000 := by
  unfold PyData.strOk
  rw [← Array.all_toList, List.all_eq_true]
  exact ⟨fun h c hc => of_decide_eq_true (h c hc), fun h c hc => decide_eq_true (h c hc)⟩
theorem ok_app {x y : Str} (h1 : PyData.strOk x = true) (h2 : PyData.strOk y = true) : PyData.strOk (x ++ y) = true := by
  rw [ok_mem] at h1 h2 ⊢
  intro c hc
  have e : (x ++ y).cps.toList = x.cps.toList ++ y.cps.toList := by
    show (x.cps ++ y.cps).toList = _
    rw [Array.toList_append]
  rw [e] at hc
  rcases List.mem_append.mp hc with z | z
  · exact h1 c z
  · exact h2 c z
theorem ok_int {i : Int} : PyData.strOk (PyData.shown (.int i)) = true := by
  rw [ok_mem]
  intro c hc
  refine Classical.byContradiction fun z => ?_
  exact PyProof.Rows.shown_int_free' (k := c) ⟨by omega, by omega⟩ i hc
theorem ok_from : ∀ {ts : List Str} {k : Nat} {acc : Str}, PyData.strOk acc = true → (∀ t ∈ ts, PyData.strOk t = true) → PyData.strOk (textFrom k acc ts) = true
  | [], k, acc, h, _ => h
  | t :: ts, k, acc, h, g => by
    show PyData.strOk (textFrom (k + 1) (acc ++ ((if k > 0 then ", " else "" : String) : Str) ++ t) ts) = true
    refine ok_from (ok_app (ok_app h ?_) (g t List.mem_cons_self)) fun u hu => g u (List.mem_cons_of_mem _ hu)
    split <;> decide +kernel
theorem ok_tup {ts : List Str} (h : ∀ t ∈ ts, PyData.strOk t = true) : PyData.strOk (tupleText ts) = true := by
  have j : ∀ {ts : List Str}, (∀ t ∈ ts, PyData.strOk t = true) → PyData.strOk (Str.join ", " ts) = true := by
    intro ts h
    induction ts with
    | nil => decide +kernel
    | cons t ts ih =>
      cases ts with
      | nil => exact h t List.mem_cons_self
      | cons u us =>
        show PyData.strOk (t ++ ", " ++ Str.join ", " (u :: us)) = true
        exact ok_app (ok_app (h t List.mem_cons_self) (by decide +kernel)) (ih fun v hv => h v (List.mem_cons_of_mem _ hv))
  unfold tupleText
  refine ok_app (ok_app (by decide +kernel) (j h)) ?_
  split <;> decide +kernel
/-- good data: k its depth at most, w a bound of its weight -/
structure Shw (k w : Nat) (d : DV) : Prop where
  ls : (py d).leavesShort 13 = true
  wt : (py d).weight ≤ w
  sh : (py d).showable = true
  ok : PyData.strOk (py d).shown = true
  eq : ∀ n, k ≤ n → eqok d n = true
  rf : PyData.eqv (py d) (py d) = true
theorem Shw.mono {k w k' w' : Nat} {d : DV} (h : Shw k w d) (hk : k ≤ k') (hw : w ≤ w') : Shw k' w' d := ⟨h.ls, Nat.le_trans h.wt hw, h.sh, h.ok, fun n hn => h.eq n (Nat.le_trans hk hn), h.rf⟩
theorem int {i : Int} (h : i.natAbs ≤ 10000000) : Shw 0 25 (.int i) := by
  have s1 := PyData.shown_int_le (i := i) (by omega)
  have l1 : i.natAbs.log2 < 24 := by
    by_cases z : i.natAbs = 0
    · rw [z]; decide
    · exact (Nat.log2_lt z).mpr (Nat.lt_of_le_of_lt h (by decide))
  refine ⟨?_, ?_, ?_, ok_int, fun n _ => rfl, ?_⟩
  · simp [py, PyData.leavesShort, s1]
  · simp [py, PyData.weight]
    split <;> omega
  · simp [py, PyData.showable]
    omega
  · simp [py, PyData.eqv]
theorem non : Shw 0 0 .non := ⟨rfl, Nat.le_refl _, rfl, by decide +kernel, fun n _ => rfl, rfl⟩
theorem bl {b : Bool} : Shw 0 0 (.bl b) := by cases b <;> exact ⟨rfl, Nat.le_refl _, rfl, by decide +kernel, fun n _ => rfl, rfl⟩
theorem alls {k w : Nat} : ∀ {ds : List DV}, (∀ d ∈ ds, Shw k w d) → PyData.leavesShortAll 13 (pys ds) = true ∧ PyData.weightAll (pys ds) ≤ (w + 1) * ds.length ∧ PyData.showableAll (pys ds) = true ∧ (∀ t ∈ PyData.shownAll (pys ds), PyData.strOk t = true) ∧ (∀ n, k ≤ n → eqoks ds n = true) ∧ PyData.eqvAll (pys ds) (pys ds) = true
  | [], _ => by simp [pys, PyData.leavesShortAll, PyData.weightAll, PyData.showableAll, PyData.shownAll, eqoks, PyData.eqvAll]
  | d :: ds, h => by
    have a := h d List.mem_cons_self
    obtain ⟨b1, b2, b3, b4, b5, b6⟩ := alls (ds := ds) fun x hx => h x (List.mem_cons_of_mem _ hx)
    have e : pys (d :: ds) = py d :: pys ds := rfl
    rw [e]
    refine ⟨?_, ?_, ?_, ?_, fun n hn => ?_, ?_⟩
    · unfold PyData.leavesShortAll
      rw [a.ls, b1]
      rfl
    · unfold PyData.weightAll
      rw [List.length_cons, Nat.mul_succ]
      have := a.wt
      omega
    · unfold PyData.showableAll
      rw [a.sh, b3]
      rfl
    · intro t ht
      unfold PyData.shownAll at ht
      rcases List.mem_cons.mp ht with z | z
      · rw [z]; exact a.ok
      · exact b4 t z
    · show (eqok d n && eqoks ds n) = true
      rw [a.eq n hn, b5 n hn]
      rfl
    · unfold PyData.eqvAll
      rw [a.rf, b6]
      rfl
theorem lst {k w : Nat} {ds : List DV} (h : ∀ d ∈ ds, Shw k w d) : Shw (k + 1) ((w + 1) * ds.length) (.lst ds) := by
  obtain ⟨b1, b2, b3, b4, b5, b6⟩ := alls h
  refine ⟨?_, ?_, ?_, ?_, fun n hn => ?_, ?_⟩
  · show PyData.leavesShort 13 (.list (pys ds)) = true
    unfold PyData.leavesShort
    exact b1
  · show PyData.weight (.list (pys ds)) ≤ _
    unfold PyData.weight
    exact b2
  · show PyData.showable (.list (pys ds)) = true
    unfold PyData.showable
    exact b3
  · have e : (py (.lst ds)).shown = textFrom 0 "[" (PyData.shownAll (pys ds)) ++ "]" := by
      show PyData.shown (.list (pys ds)) = _
      unfold PyData.shown
      rfl
    rw [e]
    exact ok_app (ok_from (by decide +kernel) b4) (by decide +kernel)
  · obtain ⟨m, rfl⟩ : ∃ m, n = m + 1 := ⟨n - 1, by omega⟩
    exact b5 m (by omega)
  · show PyData.eqv (.list (pys ds)) (.list (pys ds)) = true
    unfold PyData.eqv
    exact b6
theorem tup {k w : Nat} {ds : List DV} (h : ∀ d ∈ ds, Shw k w d) : Shw (k + 1) ((w + 1) * ds.length) (.tup ds) := by
  obtain ⟨b1, b2, b3, b4, b5, b6⟩ := alls h
  refine ⟨?_, ?_, ?_, ?_, fun n hn => ?_, ?_⟩
  · show PyData.leavesShort 13 (.tuple (pys ds)) = true
    unfold PyData.leavesShort
    exact b1
  · show PyData.weight (.tuple (pys ds)) ≤ _
    unfold PyData.weight
    exact b2
  · show PyData.showable (.tuple (pys ds)) = true
    unfold PyData.showable
    exact b3
  · have e : (py (.tup ds)).shown = tupleText (PyData.shownAll (pys ds)) := by
      show PyData.shown (.tuple (pys ds)) = _
      unfold PyData.shown
      rfl
    rw [e]
    exact ok_tup b4
  · obtain ⟨m, rfl⟩ : ∃ m, n = m + 1 := ⟨n - 1, by omega⟩
    exact b5 m (by omega)
  · show PyData.eqv (.tuple (pys ds)) (.tuple (pys ds)) = true
    unfold PyData.eqv
    exact b6
theorem map {α : Type} {k w : Nat} {g : α → DV} {xs : List α} (h : ∀ x ∈ xs, Shw k w (g x)) : Shw (k + 1) ((w + 1) * xs.length) (.lst (xs.map g)) := by
  have z := lst (ds := xs.map g) fun d hd => by
    obtain ⟨x, hx, rfl⟩ := List.mem_map.mp hd
    exact h x hx
  rw [List.length_map] at z
  exact z
theorem repr {k w : Nat} {d : DV} (h : Shw k w d) (hs : isSq d = true) (hk : k ≤ 20) (hw : w ≤ 1048576) : dRepr [d] = .ok (.str (py d).shown) := by
  have f := PyData.shown_fits (B := 13) (by decide) (by decide) h.ls (Nat.le_trans h.wt (Nat.le_trans hw (by decide)))
  unfold dRepr
  dsimp only
  rw [if_pos]
  rw [hs, h.eq 20 hk, h.sh, decide_eq_true f]
  rfl
theorem ne_self {k w : Nat} {d : DV} (h : Shw k w d) (hk : k ≤ 20) : dNe d d = .ok (.bl false) := by
  unfold dNe
  rw [h.eq 20 hk, if_pos (by rfl)]
  unfold eqv
  rw [h.rf]
  rfl
theorem eq_self {k w : Nat} {d : DV} (h : Shw k w d) (hk : k ≤ 20) : dEq d d = .ok (.bl true) := by
  unfold dEq
  rw [h.eq 20 hk, if_pos (by rfl)]
  unfold eqv
  rw [h.rf]
theorem ne_str {x : Str} (h : PyData.strOk x = true) : dNe (.str x) (.str x) = .ok (.bl false) := by
  unfold dNe
  rw [if_pos (by show (PyData.strOk x && PyData.strOk x) = true; rw [h]; rfl)]
  simp [eqv, py, PyData.eqv]
end SH
end

/-! text Mir -/
section
set_option maxRecDepth 100000
set_option maxHeartbeats 8000000
namespace M
open PySem PySem.Spec PyProof.Rows L2 DL
abbrev N_fraction : List Str := ["numerator", "denominator", "shared"]
def b_fraction : GS := (gSeq (gIfS (gB (gBin dEq (gVar 1) (gC (.int 0)))) (gRaise "ZeroDivisor" (aCons (gVar 0) aNil)) gNext) (gSeq (gIfS (gB (gBin dLt (gVar 1) (gC (.int 0)))) (gPar 0 1 (aCons (gUn dNeg (gVar 0)) (aCons (gUn dNeg (gVar 1)) aNil))) gNext) (gSeq (gAsg (gPure (gCB dGcd (aCons (gVar 0) (aCons (gVar 1) aNil)))) (gtName 2)) (gRet (gPure (eTup (aCons (gBin dDiv (gVar 0) (gVar 2)) (aCons (gBin dDiv (gVar 1) (gVar 2)) aNil))))))))
def m_fraction : List DV → Rs DV := runB b_fraction 3
abbrev N_plus : List Str := ["first", "second"]
def b_plus : GS := (gRet (gPure (gCB m_fraction (aCons (gBin dAdd (gBin dMul (gBin dIx (gVar 0) (gC (.int 0))) (gBin dIx (gVar 1) (gC (.int 1)))) (gBin dMul (gBin dIx (gVar 1) (gC (.int 0))) (gBin dIx (gVar 0) (gC (.int 1))))) (aCons (gBin dMul (gBin dIx (gVar 0) (gC (.int 1))) (gBin dIx (gVar 1) (gC (.int 1)))) aNil)))))
def m_plus : List DV → Rs DV := runB b_plus 2
abbrev N_minus : List Str := ["first", "second"]
def b_minus : GS := (gRet (gPure (gCB m_fraction (aCons (gBin dSub (gBin dMul (gBin dIx (gVar 0) (gC (.int 0))) (gBin dIx (gVar 1) (gC (.int 1)))) (gBin dMul (gBin dIx (gVar 1) (gC (.int 0))) (gBin dIx (gVar 0) (gC (.int 1))))) (aCons (gBin dMul (gBin dIx (gVar 0) (gC (.int 1))) (gBin dIx (gVar 1) (gC (.int 1)))) aNil)))))
def m_minus : List DV → Rs DV := runB b_minus 2
abbrev N_is_less : List Str := ["first", "second"]
def b_is_less : GS := (gRet (gPure (gBin dLt (gBin dMul (gBin dIx (gVar 0) (gC (.int 0))) (gBin dIx (gVar 1) (gC (.int 1)))) (gBin dMul (gBin dIx (gVar 1) (gC (.int 0))) (gBin dIx (gVar 0) (gC (.int 1)))))))
def m_is_less : List DV → Rs DV := runB b_is_less 2
abbrev N_ceiling : List Str := ["pair"]
def b_ceiling : GS := (gRet (gPure (gUn dNeg (gBin dDiv (gUn dNeg (gBin dIx (gVar 0) (gC (.int 0)))) (gBin dIx (gVar 0) (gC (.int 1)))))))
def m_ceiling : List DV → Rs DV := runB b_ceiling 1
abbrev N_added : List Str := ["fractions", "total", "pair"]
def b_added : GS := (gSeq (gAsg (gPure (gC (.tup [(.int 0), (.int 1)]))) (gtName 1)) (gSeq (gFor (gSeqI (gVar 0)) (gtName 2) (gAsg (gPure (gCB m_plus (aCons (gVar 1) (aCons (gVar 2) aNil)))) (gtName 1))) (gRet (gPure (gVar 1)))))
def m_added : List DV → Rs DV := runB b_added 3
abbrev N_weighted : List Str := ["numbers", "fractions", "k"]
def b_weighted : GS := (gRet (gPure (gCB m_added (aCons (gLc (gRng1 (aCons (gCB dLen (aCons (gVar 0) aNil)) aNil)) (gtName 2) gYes (gNX (gCB m_fraction (aCons (gBin dMul (gBin dIx (gVar 0) (gVar 2)) (gBin dIx (gBin dIx (gVar 1) (gVar 2)) (gC (.int 0)))) (aCons (gBin dIx (gBin dIx (gVar 1) (gVar 2)) (gC (.int 1))) aNil)))) [2]) aNil))))
def m_weighted : List DV → Rs DV := runB b_weighted 3
abbrev N_Program_rows : List Str := ["self", "numbers", "relation", "bound"]
def b_Program_rows : GS := (gRet (gPure (gLc (gSeqI (gFld "Program" "_rows" (gVar 0))) (gtTup [1, 2, 3]) gYes (eTup (aCons (gCB dList (aCons (gVar 1) aNil)) (aCons (gVar 2) (aCons (gVar 3) aNil)))) [1, 2, 3])))
def m_Program_rows : List DV → Rs DV := runB b_Program_rows 4
abbrev N_are_fit : List Str := ["program", "multipliers", "rows", "k"]
def b_are_fit : GS := (gSeq (gAsg (gPure (gMeth "Program" "rows" m_Program_rows (gVar 0) aNil)) (gtName 2)) (gSeq (gIfS (gB (gBin dNe (gCB dLen (aCons (gVar 1) aNil)) (gCB dLen (aCons (gVar 2) aNil)))) (gRet (gPure (gC (.bl false)))) gNext) (gSeq (gFor (gRng1 (aCons (gCB dLen (aCons (gVar 2) aNil)) aNil)) (gtName 3) (gIfS (gOr (gAnd (gB (gBin dEq (gBin dIx (gBin dIx (gVar 2) (gVar 3)) (gC (.int 1))) (gC (.str (Str.ofString "least"))))) (gB (gBin dLt (gBin dIx (gBin dIx (gVar 1) (gVar 3)) (gC (.int 0))) (gC (.int 0))))) (gAnd (gB (gBin dEq (gBin dIx (gBin dIx (gVar 2) (gVar 3)) (gC (.int 1))) (gC (.str (Str.ofString "most"))))) (gB (gBin dGt (gBin dIx (gBin dIx (gVar 1) (gVar 3)) (gC (.int 0))) (gC (.int 0)))))) (gRet (gPure (gC (.bl false)))) gNext)) (gRet (gPure (gC (.bl true)))))))
def m_are_fit : List DV → Rs DV := runB b_are_fit 4
abbrev N_check_multipliers : List Str := ["program", "multipliers"]
def b_check_multipliers : GS := (gIfS (gB (gBin dNe (gCB dLen (aCons (gVar 1) aNil)) (gCB dLen (aCons (gNX (gMeth "Program" "rows" m_Program_rows (gVar 0) aNil)) aNil)))) (gRaise "WrongSize" (aCons (gC (.int 0)) aNil)) gNext)
def m_check_multipliers : List DV → Rs DV := runB b_check_multipliers 2
abbrev N_Program_count : List Str := ["self"]
def b_Program_count : GS := (gRet (gPure (gCB dLen (aCons (gFld "Program" "_prices" (gVar 0)) aNil))))
def m_Program_count : List DV → Rs DV := runB b_Program_count 1
abbrev N_loads : List Str := ["program", "multipliers", "rows", "numbers", "_", "j"]
def b_loads : GS := (gSeq (gDrop (gPure (gCB m_check_multipliers (aCons (gVar 0) (aCons (gVar 1) aNil))))) (gSeq (gAsg (gPure (gNX (gMeth "Program" "rows" m_Program_rows (gVar 0) aNil))) (gtName 2)) (gRet (gPure (gLc (gRng1 (aCons (gNX (gMeth "Program" "count" m_Program_count (gVar 0) aNil)) aNil)) (gtName 5) gYes (gNX (gCB m_weighted (aCons (gLc (gSeqI (gVar 2)) (gtTup [3, 4, 4]) gYes (gBin dIx (gVar 3) (gVar 5)) [3, 4, 4]) (aCons (gVar 1) aNil)))) [5])))))
def m_loads : List DV → Rs DV := runB b_loads 6
abbrev N_gain : List Str := ["program", "multipliers", "_", "bound"]
def b_gain : GS := (gSeq (gDrop (gPure (gCB m_check_multipliers (aCons (gVar 0) (aCons (gVar 1) aNil))))) (gRet (gPure (gCB m_weighted (aCons (gLc (gSeqI (gNX (gMeth "Program" "rows" m_Program_rows (gVar 0) aNil))) (gtTup [2, 2, 3]) gYes (gVar 3) [2, 2, 3]) (aCons (gVar 1) aNil))))))
def m_gain : List DV → Rs DV := runB b_gain 4
abbrev N_check_program : List Str := ["program"]
def b_check_program : GS := (gIfS (gB (gBin dGt (gNX (gMeth "Program" "count" m_Program_count (gVar 0) aNil)) (gC (.int 16)))) (gRaise "TooMany" (aCons (gNX (gMeth "Program" "count" m_Program_count (gVar 0) aNil)) aNil)) gNext)
def m_check_program : List DV → Rs DV := runB b_check_program 1
abbrev N_check_fixing : List Str := ["program", "fixing", "k"]
def b_check_fixing : GS := (gSeq (gDrop (gPure (gCB m_check_program (aCons (gVar 0) aNil)))) (gSeq (gIfS (gB (gBin dNe (gCB dLen (aCons (gVar 1) aNil)) (gNX (gMeth "Program" "count" m_Program_count (gVar 0) aNil)))) (gRaise "WrongSize" (aCons (gC (.int 0)) aNil)) gNext) (gFor (gRng1 (aCons (gCB dLen (aCons (gVar 1) aNil)) aNil)) (gtName 2) (gIfS (gAnd (gB (gBin dNotN (gBin dIx (gVar 1) (gVar 2)) (gC .non))) (gNot (gB (gChain dLe dLe (gC (.int 0)) (gBin dIx (gVar 1) (gVar 2)) (gC (.int 1)))))) (gRaise "BadFixing" (aCons (gVar 2) aNil)) gNext))))
def m_check_fixing : List DV → Rs DV := runB b_check_fixing 3
abbrev N_least_part : List Str := ["price", "load", "fixed", "rest"]
def b_least_part : GS := (gSeq (gAsg (gPure (gCB m_minus (aCons (eTup (aCons (gVar 0) (aCons (gC (.int 1)) aNil))) (aCons (gVar 1) aNil)))) (gtName 3)) (gSeq (gIfS (gB (gBin dEq (gVar 2) (gC (.int 1)))) (gRet (gPure (gVar 3))) gNext) (gSeq (gIfS (gOr (gB (gBin dEq (gVar 2) (gC (.int 0)))) (gB (gBin dGt (gBin dIx (gVar 3) (gC (.int 0))) (gC (.int 0))))) (gRet (gPure (gC (.tup [(.int 0), (.int 1)])))) gNext) (gRet (gPure (gVar 3))))))
def m_least_part : List DV → Rs DV := runB b_least_part 4
abbrev N_bound_of : List Str := ["program", "prices", "fixing", "multipliers", "parts", "price", "load", "fixed"]
def b_bound_of : GS := (gSeq (gAsg (gPure (gLc (gZip3 (aCons (gVar 1) (aCons (gCB m_loads (aCons (gVar 0) (aCons (gVar 3) aNil))) (aCons (gVar 2) aNil)))) (gtTup [5, 6, 7]) gYes (gNX (gCB m_least_part (aCons (gVar 5) (aCons (gVar 6) (aCons (gVar 7) aNil))))) [5, 6, 7])) (gtName 4)) (gRet (gPure (gCB m_plus (aCons (gCB m_gain (aCons (gVar 0) (aCons (gVar 3) aNil))) (aCons (gCB m_added (aCons (gVar 4) aNil)) aNil))))))
def m_bound_of : List DV → Rs DV := runB b_bound_of 8
abbrev N_Program_prices : List Str := ["self"]
def b_Program_prices : GS := (gRet (gPure (gCB dList (aCons (gFld "Program" "_prices" (gVar 0)) aNil))))
def m_Program_prices : List DV → Rs DV := runB b_Program_prices 1
abbrev N_case_bound : List Str := ["program", "fixing", "multipliers"]
def b_case_bound : GS := (gSeq (gDrop (gPure (gCB m_check_fixing (aCons (gVar 0) (aCons (gVar 1) aNil))))) (gRet (gPure (gCB m_bound_of (aCons (gVar 0) (aCons (gNX (gMeth "Program" "prices" m_Program_prices (gVar 0) aNil)) (aCons (gVar 1) (aCons (gVar 2) aNil))))))))
def m_case_bound : List DV → Rs DV := runB b_case_bound 3
abbrev N_shows_none : List Str := ["program", "fixing", "multipliers"]
def b_shows_none : GS := (gSeq (gDrop (gPure (gCB m_check_fixing (aCons (gVar 0) (aCons (gVar 1) aNil))))) (gSeq (gIfS (gNot (gB (gNX (gCB m_are_fit (aCons (gVar 0) (aCons (gVar 2) aNil)))))) (gRet (gPure (gC (.bl false)))) gNext) (gRet (gPure (gNX (gCB m_is_less (aCons (gC (.tup [(.int 0), (.int 1)])) (aCons (gNX (gCB m_bound_of (aCons (gVar 0) (aCons (gBin dRep (eLst (aCons (gC (.int 0)) aNil)) (gNX (gMeth "Program" "count" m_Program_count (gVar 0) aNil))) (aCons (gVar 1) (aCons (gVar 2) aNil)))))) aNil))))))))
def m_shows_none : List DV → Rs DV := runB b_shows_none 3
abbrev N_first_list : List Str := ["fixing", "fixed"]
def b_first_list : GS := (gRet (gPure (gLc (gSeqI (gVar 0)) (gtName 1) gYes (gIf (gB (gBin dIsN (gVar 1) (gC .non))) (gC (.int 0)) (gVar 1)) [1])))
def m_first_list : List DV → Rs DV := runB b_first_list 2
abbrev N_closes : List Str := ["program", "fixing", "multipliers", "value", "told", "least"]
def b_closes : GS := (gSeq (gDrop (gPure (gCB m_check_fixing (aCons (gVar 0) (aCons (gVar 1) aNil))))) (gSeq (gIfS (gNot (gB (gNX (gCB m_are_fit (aCons (gVar 0) (aCons (gVar 2) aNil)))))) (gRet (gPure (gC (.bl false)))) gNext) (gSeq (gAsg (gPure (gNX (gCB m_ceiling (aCons (gNX (gCB m_bound_of (aCons (gVar 0) (aCons (gNX (gMeth "Program" "prices" m_Program_prices (gVar 0) aNil)) (aCons (gVar 1) (aCons (gVar 2) aNil)))))) aNil)))) (gtName 5)) (gRet (gPure (gOrV (gBin dGt (gVar 5) (gVar 3)) (gAndV (gBin dEq (gVar 5) (gVar 3)) (gBin dGeD (gNX (gCB m_first_list (aCons (gVar 1) aNil))) (gVar 4)))))))))
def m_closes : List DV → Rs DV := runB b_closes 6
abbrev N__law_numbers : List Str := ["_law_script", "_law_many", "_law_rest", "_law_cell", "_law_mixed", "_law_numbers_here", "_law_k", "_law_at"]
def b__law_numbers : GS := (gSeq (gAsg (gPure (gBin dAdd (gLc (gSeqI (gSl (gVar 0) gNoPart (gPart (gC (.int 63))))) (gtName 3) gYes (gCB dAbs (aCons (gVar 3) aNil)) [3]) (eLst (aCons (gC (.int 0)) aNil)))) (gtName 2)) (gSeq (gIfS (gB (gBin dGt (gCB dLen (aCons (gVar 0) aNil)) (gC (.int 0)))) (gAsg (gPure (gSl (gVar 2) gNoPart (gPart (gUn dNeg (gC (.int 1)))))) (gtName 2)) gNext) (gSeq (gAsg (gPure (gLc (gSeqI (gVar 2)) (gtName 3) gYes (gBin dMod (gCB dInt (aCons (gBin dAdd (gBin dMul (gVar 3) (gC (.int 48271))) (gC (.int 11))) aNil)) (gC (.int 2147483647))) [3])) (gtName 4)) (gSeq (gAsg (gPure (eLst aNil)) (gtName 5)) (gSeq (gFor (gRng1 (aCons (gVar 1) aNil)) (gtName 6) (gSeq (gAsg (gPure (gBin dMod (gCB dInt (aCons (gVar 6) aNil)) (gCB dLen (aCons (gVar 2) aNil)))) (gtName 7)) (gIfS (gB (gBin dGe (gBin dIx (gVar 2) (gVar 7)) (gBin dPow (gC (.int 10)) (gC (.int 18))))) (gSeq (gDrop (gApp 5 (gPure (gBin dMod (gCB dInt (aCons (gBin dIx (gVar 2) (gVar 7)) aNil)) (gC (.int 65536)))))) (gSetI 2 (gVar 7) (gPure (gBin dDiv (gBin dIx (gVar 2) (gVar 7)) (gC (.int 65536)))))) (gSeq (gSetI 4 (gVar 7) (gPure (gBin dMod (gCB dInt (aCons (gBin dAdd (gBin dAdd (gBin dMul (gBin dIx (gVar 4) (gVar 7)) (gC (.int 16807))) (gC (.int 12345))) (gBin dMul (gC (.int 7919)) (gVar 6))) aNil)) (gC (.int 2147483647))))) (gDrop (gApp 5 (gPure (gBin dMod (gCB dInt (aCons (gBin dAdd (gBin dIx (gVar 2) (gVar 7)) (gBin dDiv (gBin dIx (gVar 4) (gVar 7)) (gC (.int 5)))) aNil)) (gC (.int 65536)))))))))) (gRet (gMove 5)))))))
def m__law_numbers : List DV → Rs DV := runB b__law_numbers 8
abbrev N__law_lowest : List Str := ["_law_p", "_law_q", "_law_one", "_law_two", "_law_turn"]
def b__law_lowest : GS := (gSeq (gIfS (gB (gBin dLt (gVar 1) (gC (.int 0)))) (gPar 0 1 (aCons (gUn dNeg (gVar 0)) (aCons (gUn dNeg (gVar 1)) aNil))) gNext) (gSeq (gPar 2 3 (aCons (gCB dAbs (aCons (gVar 0) aNil)) (aCons (gVar 1) aNil))) (gSeq (gFor (gRng1 (aCons (gC (.int 4000)) aNil)) (gtName 4) (gSeq (gIfS (gB (gBin dEq (gVar 3) (gC (.int 0)))) gBrk gNext) (gPar 2 3 (aCons (gVar 3) (aCons (gBin dMod (gCB dInt (aCons (gVar 2) aNil)) (gVar 3)) aNil))))) (gRet (gPure (eTup (aCons (gBin dDiv (gVar 0) (gVar 2)) (aCons (gBin dDiv (gVar 1) (gVar 2)) aNil))))))))
def m__law_lowest : List DV → Rs DV := runB b__law_lowest 5
abbrev N__law_plus : List Str := ["_law_first", "_law_second"]
def b__law_plus : GS := (gRet (gPure (gCB m__law_lowest (aCons (gBin dAdd (gBin dMul (gBin dIx (gVar 0) (gC (.int 0))) (gBin dIx (gVar 1) (gC (.int 1)))) (gBin dMul (gBin dIx (gVar 1) (gC (.int 0))) (gBin dIx (gVar 0) (gC (.int 1))))) (aCons (gBin dMul (gBin dIx (gVar 0) (gC (.int 1))) (gBin dIx (gVar 1) (gC (.int 1)))) aNil)))))
def m__law_plus : List DV → Rs DV := runB b__law_plus 2
abbrev N__law_added : List Str := ["_law_rows", "_law_total", "_law_one"]
def b__law_added : GS := (gSeq (gAsg (gPure (eTup (aCons (gC (.int 0)) (aCons (gC (.int 1)) aNil)))) (gtName 1)) (gSeq (gFor (gSeqI (gVar 0)) (gtName 2) (gAsg (gPure (gCB m__law_plus (aCons (gVar 1) (aCons (gVar 2) aNil)))) (gtName 1))) (gRet (gPure (gVar 1)))))
def m__law_added : List DV → Rs DV := runB b__law_added 3
abbrev N__law_weighted : List Str := ["_law_numbers_here", "_law_values", "_law_k"]
def b__law_weighted : GS := (gRet (gPure (gCB m__law_added (aCons (gLc (gRng1 (aCons (gCB dLen (aCons (gVar 0) aNil)) aNil)) (gtName 2) gYes (gCB m__law_lowest (aCons (gBin dMul (gBin dIx (gVar 0) (gVar 2)) (gBin dIx (gBin dIx (gVar 1) (gVar 2)) (gC (.int 0)))) (aCons (gBin dIx (gBin dIx (gVar 1) (gVar 2)) (gC (.int 1))) aNil))) [2]) aNil))))
def m__law_weighted : List DV → Rs DV := runB b__law_weighted 3
abbrev N__law_program : List Str := ["_law_numbers_here", "_law_at", "_law_most", "_law_count", "_law_many", "_law_wide", "_law_prices", "_law_j", "_law_rows", "_law_k", "_law_drawn", "_law_line", "_law_relation", "_law_total"]
def b__law_program : GS := (gSeq (gAsg (gPure (gBin dAdd (gC (.int 1)) (gBin dMod (gCB dInt (aCons (gBin dIx (gVar 0) (gVar 1)) aNil)) (gVar 2)))) (gtName 4)) (gSeq (gAsg (gPure (gBin dAdd (gC (.int 1)) (gBin dMod (gCB dInt (aCons (gBin dIx (gVar 0) (gBin dAdd (gVar 1) (gC (.int 1)))) aNil)) (gC (.int 5))))) (gtName 5)) (gSeq (gAsg (gPure (gLc (gRng1 (aCons (gVar 4) aNil)) (gtName 7) gYes (gBin dSub (gBin dMod (gCB dInt (aCons (gBin dIx (gVar 0) (gBin dAdd (gBin dAdd (gVar 1) (gC (.int 2))) (gVar 7))) aNil)) (gBin dAdd (gBin dMul (gC (.int 2)) (gVar 5)) (gC (.int 3)))) (gBin dIx (eLst (aCons (gC (.int 0)) (aCons (gC (.int 1)) (aCons (gBin dAdd (gVar 5) (gC (.int 1))) aNil)))) (gBin dMod (gBin dDiv (gCB dInt (aCons (gBin dIx (gVar 0) (gBin dAdd (gVar 1) (gC (.int 1)))) aNil)) (gC (.int 5))) (gC (.int 3))))) [7])) (gtName 6)) (gSeq (gAsg (gPure (eLst aNil)) (gtName 8)) (gSeq (gFor (gRng1 (aCons (gBin dMod (gCB dInt (aCons (gBin dIx (gVar 0) (gBin dAdd (gVar 1) (gC (.int 20)))) aNil)) (gBin dAdd (gVar 3) (gC (.int 1)))) aNil)) (gtName 9) (gSeq (gAsg (gPure (gCB dInt (aCons (gBin dIx (gVar 0) (gBin dAdd (gBin dAdd (gVar 1) (gC (.int 21))) (gVar 9))) aNil))) (gtName 10)) (gSeq (gAsg (gPure (gLc (gRng1 (aCons (gVar 4) aNil)) (gtName 7) gYes (gBin dSub (gBin dMod (gCB dInt (aCons (gBin dAdd (gBin dIx (gVar 0) (gBin dAdd (gBin dAdd (gVar 1) (gC (.int 32))) (gBin dMod (gCB dInt (aCons (gBin dAdd (gBin dMul (gVar 9) (gVar 4)) (gVar 7)) aNil)) (gC (.int 50))))) (gBin dMul (gC (.int 13)) (gVar 9))) aNil)) (gBin dAdd (gVar 5) (gC (.int 2)))) (gBin dMul (gBin dMod (gVar 10) (gC (.int 2))) (gBin dAdd (gC (.int 1)) (gBin dDiv (gVar 5) (gC (.int 2)))))) [7])) (gtName 11)) (gSeq (gAsg (gPure (gBin dIx (eLst (aCons (gC (.str (Str.ofString "least"))) (aCons (gC (.str (Str.ofString "most"))) (aCons (gC (.str (Str.ofString "least"))) (aCons (gC (.str (Str.ofString "least"))) (aCons (gC (.str (Str.ofString "most"))) (aCons (gC (.str (Str.ofString "equal"))) aNil))))))) (gBin dMod (gBin dDiv (gVar 10) (gC (.int 2))) (gC (.int 6))))) (gtName 12)) (gSeq (gAsg (gPure (gCB dSum (aCons (gLc (gRng1 (aCons (gVar 4) aNil)) (gtName 7) gYes (gBin dMul (gBin dIx (gVar 11) (gVar 7)) (gBin dMod (gBin dDiv (gCB dInt (aCons (gBin dIx (gVar 0) (gBin dAdd (gBin dAdd (gVar 1) (gC (.int 2))) (gVar 7))) aNil)) (gC (.int 16))) (gC (.int 2)))) [7]) aNil))) (gtName 13)) (gDrop (gApp 8 (gPure (eTup (aCons (gVar 11) (aCons (gVar 12) (aCons (gBin dAdd (gVar 13) (gBin dIx (eLst (aCons (gC (.int 0)) (aCons (gC (.int 0)) (aCons (gC (.int 1)) (aCons (gUn dNeg (gC (.int 1))) (aCons (gC (.int 2)) aNil)))))) (gBin dMod (gBin dDiv (gVar 10) (gC (.int 12))) (gC (.int 5))))) aNil)))))))))))) (gRet (xTup (xCons (gPure (gVar 4)) (xCons (gPure (gVar 6)) (xCons (gMove 8) xNil))))))))))
def m__law_program : List DV → Rs DV := runB b__law_program 14
abbrev N__law_good : List Str := ["_law_rows", "_law_told", "_law_line", "_law_relation", "_law_bound_here", "_law_total", "_law_j"]
def b__law_good : GS := (gSeq (gFor (gSeqI (gVar 0)) (gtTup [2, 3, 4]) (gSeq (gAsg (gPure (gCB dSum (aCons (gLc (gRng1 (aCons (gCB dLen (aCons (gVar 1) aNil)) aNil)) (gtName 6) gYes (gBin dMul (gBin dIx (gVar 2) (gVar 6)) (gBin dIx (gVar 1) (gVar 6))) [6]) aNil))) (gtName 5)) (gIfS (gOr (gAnd (gB (gBin dNe (gVar 3) (gC (.str (Str.ofString "most"))))) (gB (gBin dLt (gVar 5) (gVar 4)))) (gAnd (gB (gBin dNe (gVar 3) (gC (.str (Str.ofString "least"))))) (gB (gBin dGt (gVar 5) (gVar 4))))) (gRet (gPure (gC (.bl false)))) gNext))) (gRet (gPure (gC (.bl true)))))
def m__law_good : List DV → Rs DV := runB b__law_good 7
abbrev N__law_lists : List Str := ["_law_many", "_law_j", "_law_number"]
def b__law_lists : GS := (gRet (gPure (gLc (gRng1 (aCons (gBin dShl (gC (.int 1)) (gVar 0)) aNil)) (gtName 2) gYes (gLc (gRng1 (aCons (gVar 0) aNil)) (gtName 1) gYes (gBin dAnd (gBin dShr (gVar 2) (gBin dSub (gBin dSub (gVar 0) (gC (.int 1))) (gVar 1))) (gC (.int 1))) [1]) [2])))
def m__law_lists : List DV → Rs DV := runB b__law_lists 3
abbrev N__law_worth : List Str := ["_law_prices", "_law_told", "_law_j"]
def b__law_worth : GS := (gRet (gPure (gCB dSum (aCons (gLc (gRng1 (aCons (gCB dLen (aCons (gVar 1) aNil)) aNil)) (gtName 2) gYes (gBin dMul (gBin dIx (gVar 0) (gVar 2)) (gBin dIx (gVar 1) (gVar 2))) [2]) aNil))))
def m__law_worth : List DV → Rs DV := runB b__law_worth 3
abbrev N__law_fit : List Str := ["_law_rows", "_law_weights", "_law_k"]
def b__law_fit : GS := (gSeq (gIfS (gB (gBin dNe (gCB dLen (aCons (gVar 1) aNil)) (gCB dLen (aCons (gVar 0) aNil)))) (gRet (gPure (gC (.bl false)))) gNext) (gSeq (gFor (gRng1 (aCons (gCB dLen (aCons (gVar 0) aNil)) aNil)) (gtName 2) (gIfS (gOr (gAnd (gB (gBin dEq (gBin dIx (gBin dIx (gVar 0) (gVar 2)) (gC (.int 1))) (gC (.str (Str.ofString "least"))))) (gB (gBin dLt (gBin dIx (gBin dIx (gVar 1) (gVar 2)) (gC (.int 0))) (gC (.int 0))))) (gAnd (gB (gBin dEq (gBin dIx (gBin dIx (gVar 0) (gVar 2)) (gC (.int 1))) (gC (.str (Str.ofString "most"))))) (gB (gBin dGt (gBin dIx (gBin dIx (gVar 1) (gVar 2)) (gC (.int 0))) (gC (.int 0)))))) (gRet (gPure (gC (.bl false)))) gNext)) (gRet (gPure (gC (.bl true))))))
def m__law_fit : List DV → Rs DV := runB b__law_fit 3
abbrev N__law_bound : List Str := ["_law_prices", "_law_rows", "_law_fixing", "_law_weights", "_law_total", "_law_row", "_law_j", "_law_load", "_law_rest"]
def b__law_bound : GS := (gSeq (gAsg (gPure (gCB m__law_weighted (aCons (gLc (gSeqI (gVar 1)) (gtName 5) gYes (gBin dIx (gVar 5) (gC (.int 2))) [5]) (aCons (gVar 3) aNil)))) (gtName 4)) (gSeq (gFor (gRng1 (aCons (gCB dLen (aCons (gVar 0) aNil)) aNil)) (gtName 6) (gSeq (gAsg (gPure (gCB m__law_weighted (aCons (gLc (gSeqI (gVar 1)) (gtName 5) gYes (gBin dIx (gBin dIx (gVar 5) (gC (.int 0))) (gVar 6)) [5]) (aCons (gVar 3) aNil)))) (gtName 7)) (gSeq (gAsg (gPure (gCB m__law_plus (aCons (eTup (aCons (gBin dIx (gVar 0) (gVar 6)) (aCons (gC (.int 1)) aNil))) (aCons (eTup (aCons (gUn dNeg (gBin dIx (gVar 7) (gC (.int 0)))) (aCons (gBin dIx (gVar 7) (gC (.int 1))) aNil))) aNil)))) (gtName 8)) (gIfS (gOr (gB (gBin dEq (gBin dIx (gVar 2) (gVar 6)) (gC (.int 1)))) (gAnd (gB (gBin dIsN (gBin dIx (gVar 2) (gVar 6)) (gC .non))) (gB (gBin dLt (gBin dIx (gVar 8) (gC (.int 0))) (gC (.int 0)))))) (gAsg (gPure (gCB m__law_plus (aCons (gVar 4) (aCons (gVar 8) aNil)))) (gtName 4)) gNext)))) (gRet (gPure (gVar 4)))))
def m__law_bound : List DV → Rs DV := runB b__law_bound 9
abbrev N__law_shows_none : List Str := ["_law_prices", "_law_rows", "_law_fixing", "_law_weights"]
def b__law_shows_none : GS := (gRet (gPure (gAndV (gCB m__law_fit (aCons (gVar 1) (aCons (gVar 3) aNil))) (gBin dGt (gBin dIx (gCB m__law_bound (aCons (gBin dRep (eLst (aCons (gC (.int 0)) aNil)) (gCB dLen (aCons (gVar 0) aNil))) (aCons (gVar 1) (aCons (gVar 2) (aCons (gVar 3) aNil))))) (gC (.int 0))) (gC (.int 0))))))
def m__law_shows_none : List DV → Rs DV := runB b__law_shows_none 4
abbrev N__law_closes : List Str := ["_law_prices", "_law_rows", "_law_fixing", "_law_weights", "_law_value", "_law_told", "_law_bound_here", "_law_least", "_law_first", "_law_bit"]
def b__law_closes : GS := (gSeq (gIfS (gNot (gB (gCB m__law_fit (aCons (gVar 1) (aCons (gVar 3) aNil))))) (gRet (gPure (gC (.bl false)))) gNext) (gSeq (gAsg (gPure (gCB m__law_bound (aCons (gVar 0) (aCons (gVar 1) (aCons (gVar 2) (aCons (gVar 3) aNil)))))) (gtName 6)) (gSeq (gAsg (gPure (gUn dNeg (gBin dDiv (gUn dNeg (gBin dIx (gVar 6) (gC (.int 0)))) (gBin dIx (gVar 6) (gC (.int 1)))))) (gtName 7)) (gSeq (gAsg (gPure (gLc (gSeqI (gVar 2)) (gtName 9) gYes (gCB dInt (aCons (gBin dEq (gVar 9) (gC (.int 1))) aNil)) [9])) (gtName 8)) (gRet (gPure (gOrV (gBin dGt (gVar 7) (gVar 4)) (gAndV (gBin dEq (gVar 7) (gVar 4)) (gBin dGeD (gVar 8) (gVar 5))))))))))
def m__law_closes : List DV → Rs DV := runB b__law_closes 10
abbrev N__law_some : List Str := ["_law_numbers_here", "_law_at", "_law_k"]
def b__law_some : GS := (gRet (gPure (gCB m__law_lowest (aCons (gBin dSub (gBin dMod (gCB dInt (aCons (gBin dIx (gVar 0) (gBin dAdd (gVar 1) (gBin dMod (gCB dInt (aCons (gVar 2) aNil)) (gC (.int 30))))) aNil)) (gC (.int 9))) (gC (.int 3))) (aCons (gBin dAdd (gC (.int 1)) (gBin dMod (gBin dDiv (gCB dInt (aCons (gBin dIx (gVar 0) (gBin dAdd (gVar 1) (gBin dMod (gCB dInt (aCons (gBin dAdd (gVar 2) (gC (.int 5))) aNil)) (gC (.int 30))))) aNil)) (gC (.int 9))) (gC (.int 3)))) aNil)))))
def m__law_some : List DV → Rs DV := runB b__law_some 3
abbrev N__law_refused : List Str := ["_law_way", "_law_program_here", "_law_fixing", "_law_weights", "error"]
def b__law_refused : GS := (gSeq (gTry 5 (gIfS (gB (gBin dEq (gVar 0) (gC (.int 0)))) (gDrop (gPure (gCB m_case_bound (aCons (gVar 1) (aCons (gVar 2) (aCons (gVar 3) aNil)))))) (gIfS (gB (gBin dEq (gVar 0) (gC (.int 1)))) (gDrop (gPure (gCB m_shows_none (aCons (gVar 1) (aCons (gVar 2) (aCons (gVar 3) aNil)))))) (gDrop (gPure (gCB m_closes (aCons (gVar 1) (aCons (gVar 2) (aCons (gVar 3) (aCons (gC (.int 0)) (aCons (eLst aNil) aNil)))))))))) (fun c d => (gRet (gPure (eTup (aCons (eLst (aCons (gIsX (decide (c = "TooMany"))) (aCons (gIsX (decide (c = "WrongSize"))) (aCons (gIsX (decide (c = "BadFixing"))) aNil)))) (aCons (gAt d) aNil))))))) (gRet (gPure (gC .non))))
def m__law_refused : List DV → Rs DV := runB b__law_refused 5
abbrev N_Program___init__ : List Str := ["self", "prices", "rows", "k", "numbers", "relation", "bound"]
def b_Program___init__ : GS := (gSeq (gIfS (gNot (gB (gChain dLe dLe (gC (.int 1)) (gCB dLen (aCons (gVar 1) aNil)) (gC (.int 40))))) gNever gNext) (gSeq (gIfS (gB (gBin dGt (gCB dLen (aCons (gVar 2) aNil)) (gC (.int 80)))) gNever gNext) (gSeq (gFor (gRng1 (aCons (gCB dLen (aCons (gVar 2) aNil)) aNil)) (gtName 3) (gSeq (gIfS (gB (gBin dNe (gCB dLen (aCons (gBin dIx (gBin dIx (gVar 2) (gVar 3)) (gC (.int 0))) aNil)) (gCB dLen (aCons (gVar 1) aNil)))) gNever gNext) (gIfS (gB (gBin dNotIn (gBin dIx (gBin dIx (gVar 2) (gVar 3)) (gC (.int 1))) (gC (.tup [(.str (Str.ofString "least")), (.str (Str.ofString "most")), (.str (Str.ofString "equal"))])))) gNever gNext))) (gSeq (gSetF 0 "Program" "_prices" (gPure (gCB dList (aCons (gVar 1) aNil)))) (gSetF 0 "Program" "_rows" (gPure (gLc (gSeqI (gVar 2)) (gtTup [4, 5, 6]) gYes (eTup (aCons (gCB dList (aCons (gVar 4) aNil)) (aCons (gVar 5) (aCons (gVar 6) aNil)))) [4, 5, 6])))))))
def m_Program___init__ : List DV → Rs DV := runN "Program" b_Program___init__ 6
abbrev N__law_refusals : List Str := ["_law_numbers_here", "_law_program_here", "_law_fixing", "_law_weights", "_law_wide", "_law_at", "_law_bad", "_law_way"]
def b__law_refusals : GS := (gSeq (gAsg (gPure (gCB m_Program___init__ (aCons (gBin dRep (eLst (aCons (gC (.int 1)) aNil)) (gBin dAdd (gC (.int 17)) (gBin dMod (gCB dInt (aCons (gBin dIx (gVar 0) (gC (.int 0))) aNil)) (gC (.int 9))))) (aCons (eLst aNil) aNil)))) (gtName 4)) (gSeq (gAsg (gPure (gBin dMod (gCB dInt (aCons (gBin dIx (gVar 0) (gC (.int 1))) aNil)) (gCB dLen (aCons (gVar 2) aNil)))) (gtName 5)) (gSeq (gAsg (gPure (gBin dAdd (gBin dAdd (gSl (gVar 2) gNoPart (gPart (gVar 5))) (eLst (aCons (gBin dIx (eLst (aCons (gC (.int 2)) (aCons (gUn dNeg (gC (.int 1))) (aCons (gC (.int 7)) aNil)))) (gBin dMod (gCB dInt (aCons (gBin dIx (gVar 0) (gC (.int 2))) aNil)) (gC (.int 3)))) aNil))) (gSl (gVar 2) (gPart (gBin dAdd (gVar 5) (gC (.int 1)))) gNoPart))) (gtName 6)) (gSeq (gFor (gRng1 (aCons (gC (.int 3)) aNil)) (gtName 7) (gSeq (gIfS (gB (gBin dNe (gCB m__law_refused (aCons (gVar 7) (aCons (gVar 4) (aCons (gVar 6) (aCons (eLst aNil) aNil))))) (eTup (aCons (eLst (aCons (gC (.bl true)) (aCons (gC (.bl false)) (aCons (gC (.bl false)) aNil)))) (aCons (gMeth "Program" "count" m_Program_count (gVar 4) aNil) aNil))))) (gRet (gPure (gC (.bl false)))) gNext) (gSeq (gIfS (gB (gBin dNe (gCB m__law_refused (aCons (gVar 7) (aCons (gVar 1) (aCons (gBin dAdd (gVar 6) (eLst (aCons (gC (.int 5)) aNil))) (aCons (gVar 3) aNil))))) (eTup (aCons (eLst (aCons (gC (.bl false)) (aCons (gC (.bl true)) (aCons (gC (.bl false)) aNil)))) (aCons (gC (.int 0)) aNil))))) (gRet (gPure (gC (.bl false)))) gNext) (gIfS (gB (gBin dNe (gCB m__law_refused (aCons (gVar 7) (aCons (gVar 1) (aCons (gVar 6) (aCons (gBin dAdd (gVar 3) (eLst (aCons (eTup (aCons (gC (.int 1)) (aCons (gC (.int 1)) aNil))) aNil))) aNil))))) (eTup (aCons (eLst (aCons (gC (.bl false)) (aCons (gC (.bl false)) (aCons (gC (.bl true)) aNil)))) (aCons (gVar 5) aNil))))) (gRet (gPure (gC (.bl false)))) gNext)))) (gRet (gPure (gBin dEq (gCB m__law_refused (aCons (gC (.int 0)) (aCons (gVar 1) (aCons (gVar 2) (aCons (gBin dAdd (gVar 3) (eLst (aCons (eTup (aCons (gC (.int 0)) (aCons (gC (.int 1)) aNil))) aNil))) aNil))))) (eTup (aCons (eLst (aCons (gC (.bl false)) (aCons (gC (.bl true)) (aCons (gC (.bl false)) aNil)))) (aCons (gC (.int 0)) aNil))))))))))
def m__law_refusals : List DV → Rs DV := runB b__law_refusals 8
abbrev N__law_true : List Str := ["_law_rows", "_law_prices", "_law_fixing", "_law_weights", "_law_value", "_law_told", "_law_under", "_law_one", "_law_j", "_law_bound_here", "_law_worth_here"]
def b__law_true : GS := (gSeq (gAsg (gPure (eLst aNil)) (gtName 6)) (gSeq (gFor (gSeqI (gCB m__law_lists (aCons (gCB dLen (aCons (gVar 1) aNil)) aNil))) (gtName 7) (gIfS (gAnd (gB (gCB m__law_good (aCons (gVar 0) (aCons (gVar 7) aNil)))) (gB (gCB dAll (aCons (gLc (gRng1 (aCons (gCB dLen (aCons (gVar 7) aNil)) aNil)) (gtName 8) gYes (gOrV (gBin dIsN (gBin dIx (gVar 2) (gVar 8)) (gC .non)) (gBin dEq (gBin dIx (gVar 2) (gVar 8)) (gBin dIx (gVar 7) (gVar 8)))) [8]) aNil)))) (gDrop (gApp 6 (gPure (eTup (aCons (gCB m__law_worth (aCons (gVar 1) (aCons (gVar 7) aNil))) (aCons (gVar 7) aNil)))))) gNext)) (gSeq (gIfS (gNot (gB (gCB m__law_fit (aCons (gVar 0) (aCons (gVar 3) aNil))))) (gRet (gPure (gC (.bl true)))) gNext) (gSeq (gAsg (gPure (gCB m__law_bound (aCons (gVar 1) (aCons (gVar 0) (aCons (gVar 2) (aCons (gVar 3) aNil)))))) (gtName 9)) (gSeq (gIfS (gB (gBin dGt (gCB dLen (aCons (gLc (gSeqI (gVar 6)) (gtTup [10, 7]) (gB (gBin dLt (gBin dMul (gVar 10) (gBin dIx (gVar 9) (gC (.int 1)))) (gBin dIx (gVar 9) (gC (.int 0))))) (gC (.int 1)) [10, 7]) aNil)) (gC (.int 0)))) (gRet (gPure (gC (.bl false)))) gNext) (gSeq (gIfS (gAnd (gB (gCB m__law_shows_none (aCons (gVar 1) (aCons (gVar 0) (aCons (gVar 2) (aCons (gVar 3) aNil)))))) (gB (gBin dGt (gCB dLen (aCons (gVar 6) aNil)) (gC (.int 0))))) (gRet (gPure (gC (.bl false)))) gNext) (gRet (gPure (gOrV (gNotV (gCB m__law_closes (aCons (gVar 1) (aCons (gVar 0) (aCons (gVar 2) (aCons (gVar 3) (aCons (gVar 4) (aCons (gVar 5) aNil)))))))) (gBin dEq (gCB dLen (aCons (gLc (gSeqI (gVar 6)) (gtName 7) (gB (gBin dLtD (gVar 7) (eTup (aCons (gVar 4) (aCons (gVar 5) aNil))))) (gC (.int 1)) [7]) aNil)) (gC (.int 0))))))))))))
def m__law_true : List DV → Rs DV := runB b__law_true 11
abbrev N_law : List Str := ["_law_script", "_law_numbers_here", "_law_many", "_law_prices", "_law_rows", "_law_program_here", "_law_turn", "_law_at", "_law_fixing", "_law_j", "_law_weights", "_law_k", "_law_sign", "_law_told", "_law_value", "_law_kept", "_law_long"]
def b_law : GS := (gSeq (gAsg (gPure (gCB m__law_numbers (aCons (gVar 0) (aCons (gC (.int 260)) aNil)))) (gtName 1)) (gSeq (gAsg (gPure (gCB m__law_program (aCons (gVar 1) (aCons (gC (.int 10)) (aCons (gC (.int 6)) (aCons (gC (.int 5)) aNil)))))) (gtTup [2, 3, 4])) (gSeq (gAsg (gPure (gCB m_Program___init__ (aCons (gVar 3) (aCons (gVar 4) aNil)))) (gtName 5)) (gSeq (gFor (gRng1 (aCons (gC (.int 6)) aNil)) (gtName 6) (gSeq (gAsg (gPure (gBin dAdd (gC (.int 100)) (gBin dMul (gC (.int 8)) (gVar 6)))) (gtName 7)) (gSeq (gAsg (gPure (gLc (gRng1 (aCons (gVar 2) aNil)) (gtName 9) gYes (gBin dIx (eLst (aCons (gC (.int 0)) (aCons (gC (.int 1)) (aCons (gC .non) (aCons (gC .non) aNil))))) (gBin dMod (gCB dInt (aCons (gBin dIx (gVar 1) (gBin dAdd (gVar 7) (gVar 9))) aNil)) (gC (.int 4)))) [9])) (gtName 8)) (gSeq (gAsg (gPure (gLc (gRng1 (aCons (gCB dLen (aCons (gVar 4) aNil)) aNil)) (gtName 11) gYes (gCB m__law_some (aCons (gVar 1) (aCons (gC (.int 160)) (aCons (gBin dAdd (gBin dMul (gC (.int 3)) (gVar 6)) (gVar 11)) aNil)))) [11])) (gtName 10)) (gSeq (gIfS (gB (gBin dGt (gBin dMod (gVar 6) (gC (.int 3))) (gC (.int 0)))) (gFor (gRng1 (aCons (gCB dLen (aCons (gVar 4) aNil)) aNil)) (gtName 11) (gSeq (gAsg (gPure (gBin dIx (eLst (aCons (gC (.int 1)) (aCons (gUn dNeg (gC (.int 1))) aNil))) (gCB dInt (aCons (gBin dEq (gBin dIx (gBin dIx (gVar 4) (gVar 11)) (gC (.int 1))) (gC (.str (Str.ofString "most")))) aNil)))) (gtName 12)) (gSetI 10 (gVar 11) (gPure (eTup (aCons (gBin dMul (gVar 12) (gCB dAbs (aCons (gBin dIx (gBin dIx (gVar 10) (gVar 11)) (gC (.int 0))) aNil))) (aCons (gBin dIx (gBin dIx (gVar 10) (gVar 11)) (gC (.int 1))) aNil))))))) gNext) (gSeq (gAsg (gPure (gLc (gRng1 (aCons (gVar 2) aNil)) (gtName 9) gYes (gBin dMod (gCB dInt (aCons (gBin dIx (gVar 1) (gBin dAdd (gBin dAdd (gC (.int 200)) (gVar 6)) (gVar 9))) aNil)) (gC (.int 2))) [9])) (gtName 13)) (gSeq (gAsg (gPure (gBin dSub (gBin dMod (gCB dInt (aCons (gBin dIx (gVar 1) (gBin dAdd (gC (.int 220)) (gVar 6))) aNil)) (gC (.int 15))) (gC (.int 5)))) (gtName 14)) (gSeq (gAsg (gPure (gCB dRepr (aCons (eTup (aCons (gVar 8) (aCons (gVar 10) (aCons (gVar 13) aNil)))) aNil))) (gtName 15)) (gSeq (gIfS (gB (gBin dNe (gCB m_case_bound (aCons (gVar 5) (aCons (gVar 8) (aCons (gVar 10) aNil)))) (gCB m__law_bound (aCons (gVar 3) (aCons (gVar 4) (aCons (gVar 8) (aCons (gVar 10) aNil))))))) (gRet (gPure (gC (.bl false)))) gNext) (gSeq (gIfS (gB (gBin dNe (gCB m_shows_none (aCons (gVar 5) (aCons (gVar 8) (aCons (gVar 10) aNil)))) (gCB m__law_shows_none (aCons (gVar 3) (aCons (gVar 4) (aCons (gVar 8) (aCons (gVar 10) aNil))))))) (gRet (gPure (gC (.bl false)))) gNext) (gSeq (gIfS (gB (gBin dNe (gCB m_closes (aCons (gVar 5) (aCons (gVar 8) (aCons (gVar 10) (aCons (gVar 14) (aCons (gVar 13) aNil)))))) (gCB m__law_closes (aCons (gVar 3) (aCons (gVar 4) (aCons (gVar 8) (aCons (gVar 10) (aCons (gVar 14) (aCons (gVar 13) aNil))))))))) (gRet (gPure (gC (.bl false)))) gNext) (gSeq (gAsg (gPure (gBin dAdd (gVar 10) (eLst (aCons (eTup (aCons (gC (.int 1)) (aCons (gC (.int 2)) aNil))) aNil)))) (gtName 16)) (gSeq (gIfS (gOr (gB (gBin dNotB (gCB m_shows_none (aCons (gVar 5) (aCons (gVar 8) (aCons (gVar 16) aNil)))) (gC (.bl false)))) (gB (gBin dNotB (gCB m_closes (aCons (gVar 5) (aCons (gVar 8) (aCons (gVar 16) (aCons (gVar 14) (aCons (gVar 13) aNil)))))) (gC (.bl false))))) (gRet (gPure (gC (.bl false)))) gNext) (gIfS (gOr (gB (gBin dNe (gCB dRepr (aCons (eTup (aCons (gVar 8) (aCons (gVar 10) (aCons (gVar 13) aNil)))) aNil)) (gVar 15))) (gNot (gB (gCB m__law_true (aCons (gVar 4) (aCons (gVar 3) (aCons (gVar 8) (aCons (gVar 10) (aCons (gVar 14) (aCons (gVar 13) aNil)))))))))) (gRet (gPure (gC (.bl false)))) gNext)))))))))))))) (gRet (gPure (gCB m__law_refusals (aCons (gSl (gVar 1) (gPart (gC (.int 230))) (gPart (gC (.int 240)))) (aCons (gVar 5) (aCons (gVar 8) (aCons (gVar 10) aNil)))))))))))
def m_law : List DV → Rs DV := runB b_law 17
end M
end

/-! text L1 -/
section
set_option maxRecDepth 100000
set_option maxHeartbeats 4000000
namespace M
open PySem DL
abbrev pr (z : Int × Int) : DV := .tup [.int z.1, .int z.2]
abbrev gi (a b : Int) : Int := ((Nat.gcd a.natAbs b.natAbs : Nat) : Int)
/-- the lowest terms, the sign above -/
def low (p q : Int) : Int × Int := if q < 0 then (-p / gi p q, -q / gi p q) else (p / gi p q, q / gi p q)
theorem gi_pos {p q : Int} (h : q ≠ 0) : 0 < gi p q := by
  have : 0 < Nat.gcd p.natAbs q.natAbs := Nat.gcd_pos_of_pos_right _ (by omega)
  exact Int.ofNat_lt.mpr this
theorem gi_log {p q : Int} (h : q ≠ 0) (hb : q.natAbs.log2 < 9000) : (gi p q).natAbs.log2 < 9000 := by
  have h1 : Nat.gcd p.natAbs q.natAbs ≤ q.natAbs := Nat.gcd_le_right _ (by omega)
  have e : (gi p q).natAbs = Nat.gcd p.natAbs q.natAbs := by simp [gi]
  rw [e]
  have h2 : Nat.gcd p.natAbs q.natAbs ≠ 0 := Nat.pos_iff_ne_zero.mp (Nat.gcd_pos_of_pos_right _ (by omega))
  have h3 := Nat.log2_self_le h2
  have h4 : 2 ^ (Nat.gcd p.natAbs q.natAbs).log2 ≤ q.natAbs := Nat.le_trans h3 h1
  exact Nat.lt_of_le_of_lt ((Nat.le_log2 (by omega)).mpr h4) hb
theorem two_le : (2 : Nat) ≤ sizeLine := by decide
theorem fraction_ok {p q : Int} (h : q ≠ 0) (hb : q.natAbs.log2 < 9000) : m_fraction [.int p, .int q] = .ok (pr (low p q)) := by
  have g0 : 0 < ((Nat.gcd p.natAbs q.natAbs : Nat) : Int) := gi_pos (p := p) h
  have g1 : (((Nat.gcd p.natAbs q.natAbs : Nat) : Int)).natAbs.log2 < 9000 := gi_log (p := p) h hb
  have d1 : ∀ x : Int, dDiv (.int x) (.int ((Nat.gcd p.natAbs q.natAbs : Nat) : Int)) = .ok (.int (x / ((Nat.gcd p.natAbs q.natAbs : Nat) : Int))) := fun x => dDiv_i g0 g1
  have e0 : decide (q = 0) = false := decide_eq_false h
  unfold m_fraction runB b_fraction low
  by_cases hn : q < 0
  · simp [gSeq, gIfS, startD, dEq_i, e0, dLt_i, hn, gPar, dNeg_i, gAsg, dGcd, d2I, gtName, gRet, finB, d1, two_le, Rs.bind]
  · simp [gSeq, gIfS, startD, dEq_i, e0, dLt_i, hn, gPar, dNeg_i, gAsg, dGcd, d2I, gtName, gRet, finB, d1, two_le, Rs.bind]
theorem fraction_ex {p : Int} : m_fraction [.int p, .int 0] = .ex "ZeroDivisor" (.int p) := by
  unfold m_fraction runB b_fraction
  simp [gSeq, gIfS, startD, dEq_i, gRaise, flat, finB, Rs.bind]
theorem ix0 {a b : DV} : dIx (.tup [a, b]) (.int 0) = .ok a := rfl
theorem ix1 {a b : DV} : dIx (.tup [a, b]) (.int 1) = .ok b := rfl
/-- the sizes of the numbers of a pair -/
theorem mulOk_of {a b : Int} {m n : Nat} (ha : a.natAbs < 2 ^ m) (hb : b.natAbs < 2 ^ n) (hm : 0 < m) (hn : 0 < n) (h : m + n ≤ 1000000) : mulOk a b = true := by
  have z : a.natAbs.log2 + b.natAbs.log2 < 1000000 := L2.wide_mul ha hb hm hn h
  unfold mulOk
  rw [decide_eq_true z, Bool.or_true, Bool.or_true]
end M
end

/-! text L2m -/
section
set_option maxRecDepth 100000
set_option maxHeartbeats 4000000
namespace M
open PySem DL
def eBody : GS := gSeq (gIfS (gB (gBin dEq (gVar 3) (gC (.int 0)))) gBrk gNext) (gPar 2 3 (aCons (gVar 3) (aCons (gBin dMod (gCB dInt (aCons (gVar 2) aNil)) (gVar 3)) aNil)))
section
variable {P Q : Option DV} {a b : Int} {t : Option DV} {d : DV}
theorem eb_0 : eBody [P, Q, some (.int a), some (.int 0), t] = .bk [P, Q, some (.int a), some (.int 0), t] := by
  unfold eBody
  simp [gSeq, gIfS, dEq_i, Rs.bind, gBrk]
theorem eb_p (h : 0 < b) : eBody [P, Q, some (.int a), some (.int b), t] = .nx [P, Q, some (.int b), some (.int (a % b)), t] := by
  have e : decide (b = 0) = false := decide_eq_false (by omega)
  unfold eBody
  simp [gSeq, gIfS, dEq_i, Rs.bind, e, gPar, dInt_i, dMod_i h]
theorem fg_0 (ds : List DV) : ∃ t', forG (gtName 4) eBody ds [P, Q, some (.int a), some (.int 0), t] = .nx [P, Q, some (.int a), some (.int 0), t'] := by
  cases ds with
  | nil => exact ⟨t, rfl⟩
  | cons d ds =>
    refine ⟨some d, ?_⟩
    unfold forG
    show (match eBody [P, Q, some (.int a), some (.int 0), some d] with
      | .nx ρ2 => forG (gtName 4) eBody ds ρ2
      | .ct ρ2 => forG (gtName 4) eBody ds ρ2
      | .bk ρ2 => .nx ρ2
      | o => o) = _
    rw [eb_0]
theorem fg_p (h : 0 < b) (ds : List DV) : forG (gtName 4) eBody (d :: ds) [P, Q, some (.int a), some (.int b), t] = forG (gtName 4) eBody ds [P, Q, some (.int b), some (.int (a % b)), some d] := by
  conv => lhs; unfold forG
  show (match eBody [P, Q, some (.int a), some (.int b), some d] with
    | .nx ρ2 => forG (gtName 4) eBody ds ρ2
    | .ct ρ2 => forG (gtName 4) eBody ds ρ2
    | .bk ρ2 => .nx ρ2
    | o => o) = _
  rw [eb_p h]
end
theorem gi_0 {a : Int} (h : 0 ≤ a) : gi a 0 = a := by
  simp [gi]
  omega
theorem gi_mod {a b : Int} (ha : 0 ≤ a) (hb : 0 < b) : gi b (a % b) = gi a b := by
  unfold gi
  obtain ⟨m, rfl⟩ := Int.eq_ofNat_of_zero_le ha
  obtain ⟨n, rfl⟩ := Int.eq_ofNat_of_zero_le (Int.le_of_lt hb)
  have e : ((m : Int) % (n : Int)).natAbs = m % n := rfl
  rw [e]
  simp only [Int.natAbs_natCast]
  rw [Nat.gcd_comm n, ← Nat.gcd_rec, Nat.gcd_comm]
theorem euclid {P Q : Option DV} : ∀ (k : Nat) (ds : List DV) (a b : Int) (t : Option DV), 0 ≤ a → 0 ≤ b → b < 2 ^ k → 2 * k ≤ ds.length →
    ∃ t', forG (gtName 4) eBody ds [P, Q, some (.int a), some (.int b), t] = .nx [P, Q, some (.int (gi a b)), some (.int 0), t']
  | 0, ds, a, b, t, ha, hb, h, _ => by
    have e : b = 0 := by
      have : (2 : Int) ^ 0 = 1 := rfl
      omega
    subst e
    rw [gi_0 ha]
    exact fg_0 ds
  | k + 1, ds, a, b, t, ha, hb, h, hl => by
    by_cases e : b = 0
    · subst e
      rw [gi_0 ha]
      exact fg_0 ds
    · have hb0 : 0 < b := by omega
      match ds, hl with
      | d1 :: d2 :: ds, hl =>
        rw [fg_p hb0]
        have c0 : 0 ≤ a % b := Int.emod_nonneg _ e
        have c1 : a % b < b := Int.emod_lt_of_pos _ hb0
        rw [← gi_mod ha hb0]
        by_cases e2 : a % b = 0
        · rw [e2, gi_0 hb]
          exact fg_0 _
        · have c2 : 0 < a % b := by omega
          rw [fg_p c2, ← gi_mod hb c2]
          refine euclid k ds (a % b) (b % (a % b)) _ c0 (Int.emod_nonneg _ e2) ?_ (by simp at hl; omega)
          have h1 : b % (a % b) < a % b := Int.emod_lt_of_pos _ c2
          have h2 : (2 : Int) ^ (k + 1) = 2 ^ k * 2 := Int.pow_succ ..
          have h3 := Int.emod_add_mul_ediv b (a % b)
          have h4 : 1 ≤ b / (a % b) := by
            rw [Int.le_ediv_iff_mul_le c2]
            omega
          have h5 : (a % b) * 1 ≤ (a % b) * (b / (a % b)) := Int.mul_le_mul_of_nonneg_left h4 (by omega)
          omega
end M
end

/-! text L3 -/
section
set_option maxRecDepth 100000
set_option maxHeartbeats 4000000
namespace M
open PySem DL
theorem gi_abs (p q : Int) : gi (if p < 0 then -p else p) q = gi p q := by
  split <;> simp [gi]
theorem low_tail {p q a : Int} {t : Option DV} (h : 0 < q) (hb : q.natAbs < 2 ^ 1999) (e : a = gi p q) :
    finB (gRet (gPure (eTup (aCons (gBin dDiv (gVar 0) (gVar 2)) (aCons (gBin dDiv (gVar 1) (gVar 2)) aNil)))) [some (.int p), some (.int q), some (.int a), some (.int 0), t]) = .ok (pr (p / gi p q, q / gi p q)) := by
  subst e
  have g0 := gi_pos (p := p) (q := q) (by omega)
  have hq : q.natAbs.log2 < 9000 := Nat.lt_of_lt_of_le (PySem.Flt.log2_lt_of (by decide) hb) (by decide)
  have g1 := gi_log (p := p) (q := q) (by omega) hq
  have d1 : ∀ x : Int, dDiv (.int x) (.int (gi p q)) = .ok (.int (x / gi p q)) := fun x => dDiv_i g0 g1
  simp [gRet, Rs.bind, d1, two_le, finB]
theorem low_loop {p q : Int} {t : Option DV} (h : 0 < q) (hb : q.natAbs < 2 ^ 1999) :
    finB (gSeq (gPar 2 3 (aCons (gCB dAbs (aCons (gVar 0) aNil)) (aCons (gVar 1) aNil))) (gSeq (gFor (gRng1 (aCons (gC (.int 4000)) aNil)) (gtName 4) eBody) (gRet (gPure (eTup (aCons (gBin dDiv (gVar 0) (gVar 2)) (aCons (gBin dDiv (gVar 1) (gVar 2)) aNil)))))) [some (.int p), some (.int q), none, none, none]) = .ok (pr (p / gi p q, q / gi p q)) := by
  have e1 : gPar 2 3 (aCons (gCB dAbs (aCons (gVar 0) aNil)) (aCons (gVar 1) aNil)) [some (.int p), some (.int q), none, none, none] = .nx [some (.int p), some (.int q), some (.int (if p < 0 then -p else p)), some (.int q), none] := rfl
  rw [ev_seq e1]
  have e2 : ∀ ρ, gRng1 (aCons (gC (.int 4000)) aNil) ρ = .ok (rngD 0 4000) := fun ρ => rfl
  have hq : q < 2 ^ 1999 := by
    have : (q.natAbs : Int) < ((2 ^ 1999 : Nat) : Int) := Int.ofNat_lt.mpr hb
    rw [Int.natCast_pow] at this
    have e : (q.natAbs : Int) = q := Int.natAbs_of_nonneg (Int.le_of_lt h)
    rw [e] at this
    exact this
  obtain ⟨t', e3⟩ := euclid (P := some (.int p)) (Q := some (.int q)) 1999 (rngD 0 4000) (if p < 0 then -p else p) q none (by split <;> omega) (Int.le_of_lt h) hq (by unfold rngD; rw [List.length_map, List.length_range]; decide)
  have e4 : gFor (gRng1 (aCons (gC (.int 4000)) aNil)) (gtName 4) eBody [some (.int p), some (.int q), some (.int (if p < 0 then -p else p)), some (.int q), none] = .nx [some (.int p), some (.int q), some (.int (gi (if p < 0 then -p else p) q)), some (.int 0), t'] := by
    unfold gFor
    rw [e2]
    exact e3
  rw [ev_seq e4]
  exact low_tail h hb (gi_abs p q)
theorem lowest_ok {p q : Int} (h : q ≠ 0) (hb : q.natAbs < 2 ^ 1999) : m__law_lowest [.int p, .int q] = .ok (pr (low p q)) := by
  unfold low
  by_cases hn : q < 0
  · rw [if_pos hn]
    have e1 : gIfS (gB (gBin dLt (gVar 1) (gC (.int 0)))) (gPar 0 1 (aCons (gUn dNeg (gVar 0)) (aCons (gUn dNeg (gVar 1)) aNil))) gNext [some (.int p), some (.int q), none, none, none] = .nx [some (.int (-p)), some (.int (-q)), none, none, none] := by
      simp [gIfS, dLt_i, hn, Rs.bind, gPar, dNeg_i]
    have z := low_loop (p := -p) (q := -q) (t := none) (by omega) (by rw [Int.natAbs_neg]; exact hb)
    have g2 : gi (-p) (-q) = gi p q := by simp [gi]
    rw [g2] at z
    unfold m__law_lowest runB b__law_lowest
    show finB (gSeq _ _ [some (.int p), some (.int q), none, none, none]) = _
    rw [ev_seq e1]
    exact z
  · rw [if_neg hn]
    have e1 : gIfS (gB (gBin dLt (gVar 1) (gC (.int 0)))) (gPar 0 1 (aCons (gUn dNeg (gVar 0)) (aCons (gUn dNeg (gVar 1)) aNil))) gNext [some (.int p), some (.int q), none, none, none] = .nx [some (.int p), some (.int q), none, none, none] := by
      simp [gIfS, dLt_i, hn, Rs.bind]
    have z := low_loop (p := p) (q := q) (t := none) (by omega) hb
    unfold m__law_lowest runB b__law_lowest
    show finB (gSeq _ _ [some (.int p), some (.int q), none, none, none]) = _
    rw [ev_seq e1]
    exact z
end M
end

/-! text L4 -/
section
set_option maxRecDepth 100000
set_option maxHeartbeats 4000000
namespace M
open PySem DL
theorem gi_dl (p q : Int) : gi p q ∣ p := Int.natAbs_dvd_natAbs.mp (by simpa [gi] using Nat.gcd_dvd_left p.natAbs q.natAbs)
theorem gi_dr (p q : Int) : gi p q ∣ q := Int.natAbs_dvd_natAbs.mp (by simpa [gi] using Nat.gcd_dvd_right p.natAbs q.natAbs)
theorem nat_div {a : Int} {G : Nat} (hg : 0 < G) (hd : (G : Int) ∣ a) : (a / (G : Int)).natAbs = a.natAbs / G := by
  obtain ⟨c, hc⟩ := hd
  subst hc
  rw [Int.mul_ediv_cancel_left _ (by omega), Int.natAbs_mul, Int.natAbs_natCast, Nat.mul_div_cancel_left _ hg]
/-- sizes -/
def Sz (m n : Nat) (z : Int × Int) : Prop := z.1.natAbs < 2 ^ m ∧ z.2.natAbs < 2 ^ n
theorem low_pos {p q : Int} (h : q ≠ 0) : 0 < (low p q).2 := by
  have g0 := gi_pos (p := p) h
  have hd := gi_dr p q
  unfold low
  split
  · rename_i hn
    have h1 : gi p q ∣ -q := Int.dvd_neg.mpr hd
    obtain ⟨c, hc⟩ := h1
    show 0 < -q / gi p q
    rw [hc, Int.mul_ediv_cancel_left _ (by omega)]
    by_cases hz : c ≤ 0
    · have : gi p q * c ≤ 0 := Int.mul_nonpos_of_nonneg_of_nonpos (by omega) hz
      omega
    · omega
  · rename_i hn
    obtain ⟨c, hc⟩ := hd
    show 0 < q / gi p q
    conv => rhs; lhs; rw [hc]
    rw [Int.mul_ediv_cancel_left _ (by omega)]
    by_cases hz : c ≤ 0
    · have : gi p q * c ≤ 0 := Int.mul_nonpos_of_nonneg_of_nonpos (by omega) hz
      omega
    · omega
theorem natAbs_ediv_le {a g : Int} (hg : 0 < g) (hd : g ∣ a) : (a / g).natAbs ≤ a.natAbs := by
  obtain ⟨c, hc⟩ := hd
  rw [hc, Int.mul_ediv_cancel_left _ (by omega), Int.natAbs_mul]
  exact Nat.le_mul_of_pos_left _ (by omega)
theorem low_le {p q : Int} (h : q ≠ 0) : (low p q).1.natAbs ≤ p.natAbs ∧ (low p q).2.natAbs ≤ q.natAbs := by
  have g0 := gi_pos (p := p) h
  have d1 := gi_dl p q
  have d2 := gi_dr p q
  unfold low
  split
  · refine ⟨?_, ?_⟩
    · have := natAbs_ediv_le g0 (Int.dvd_neg.mpr d1)
      rw [Int.natAbs_neg] at this
      exact this
    · have := natAbs_ediv_le g0 (Int.dvd_neg.mpr d2)
      rw [Int.natAbs_neg] at this
      exact this
  · exact ⟨natAbs_ediv_le g0 d1, natAbs_ediv_le g0 d2⟩
theorem low_sz {p q : Int} {m n : Nat} (h : q ≠ 0) (hp : p.natAbs < 2 ^ m) (hq : q.natAbs < 2 ^ n) : Sz m n (low p q) := ⟨Nat.lt_of_le_of_lt (low_le h).1 hp, Nat.lt_of_le_of_lt (low_le h).2 hq⟩
theorem gi_div {p q : Int} (h : q ≠ 0) : gi (p / gi p q) (q / gi p q) = 1 := by
  have g0 := gi_pos (p := p) h
  have gN : 0 < Nat.gcd p.natAbs q.natAbs := Nat.gcd_pos_of_pos_right _ (by omega)
  have d1 := gi_dl p q
  have d2 := gi_dr p q
  have e1 : (p / gi p q).natAbs = p.natAbs / Nat.gcd p.natAbs q.natAbs := nat_div gN d1
  have e2 : (q / gi p q).natAbs = q.natAbs / Nat.gcd p.natAbs q.natAbs := nat_div gN d2
  show ((Nat.gcd (p / gi p q).natAbs (q / gi p q).natAbs : Nat) : Int) = 1
  rw [e1, e2, Nat.gcd_div_gcd_div_gcd_of_pos_right (by omega)]
  rfl
end M
end

/-! text L5 -/
section
set_option maxRecDepth 100000
set_option maxHeartbeats 4000000
namespace M
open PySem DL
/-- small enough for products -/
def Sm (z : Int × Int) : Prop := z.1.natAbs < 2 ^ 4000 ∧ z.2.natAbs < 2 ^ 1950
theorem mo {a b : Int} (ha : a.natAbs < 2 ^ 4000) (hb : b.natAbs < 2 ^ 4000) : mulOk a b = true := mulOk_of ha hb (by decide) (by decide) (by decide)
theorem up {a : Int} (h : a.natAbs < 2 ^ 1950) : a.natAbs < 2 ^ 4000 := Nat.lt_of_lt_of_le h (Nat.pow_le_pow_right (by decide) (by decide))
section
variable {x y : Int × Int}
theorem plus_e (hx : Sm x) (hy : Sm y) : m_plus [pr x, pr y] = m_fraction [.int (x.1 * y.2 + y.1 * x.2), .int (x.2 * y.2)] := by
  unfold m_plus runB b_plus
  simp [gRet, startD, Rs.bind, ix0, ix1, dMul_i (mo hx.1 (up hy.2)), dMul_i (mo hy.1 (up hx.2)), dMul_i (mo (up hx.2) (up hy.2)), dAdd_i]
  cases m_fraction [.int (x.1 * y.2 + y.1 * x.2), .int (x.2 * y.2)] <;> rfl
theorem minus_e (hx : Sm x) (hy : Sm y) : m_minus [pr x, pr y] = m_fraction [.int (x.1 * y.2 - y.1 * x.2), .int (x.2 * y.2)] := by
  unfold m_minus runB b_minus
  simp [gRet, startD, Rs.bind, ix0, ix1, dMul_i (mo hx.1 (up hy.2)), dMul_i (mo hy.1 (up hx.2)), dMul_i (mo (up hx.2) (up hy.2)), dSub_i]
  cases m_fraction [.int (x.1 * y.2 - y.1 * x.2), .int (x.2 * y.2)] <;> rfl
theorem lplus_e (hx : Sm x) (hy : Sm y) : m__law_plus [pr x, pr y] = m__law_lowest [.int (x.1 * y.2 + y.1 * x.2), .int (x.2 * y.2)] := by
  unfold m__law_plus runB b__law_plus
  simp [gRet, startD, Rs.bind, ix0, ix1, dMul_i (mo hx.1 (up hy.2)), dMul_i (mo hy.1 (up hx.2)), dMul_i (mo (up hx.2) (up hy.2)), dAdd_i]
  cases m__law_lowest [.int (x.1 * y.2 + y.1 * x.2), .int (x.2 * y.2)] <;> rfl
theorem less_e (hx : Sm x) (hy : Sm y) : m_is_less [pr x, pr y] = .ok (.bl (decide (x.1 * y.2 < y.1 * x.2))) := by
  unfold m_is_less runB b_is_less
  simp [gRet, startD, Rs.bind, ix0, ix1, dMul_i (mo hx.1 (up hy.2)), dMul_i (mo hy.1 (up hx.2)), dLt_i, finB]
end
end M
end

/-! text L6 -/
section
set_option maxRecDepth 100000
set_option maxHeartbeats 4000000
namespace M
open PySem DL
theorem eqv_pr {x y : Int × Int} : eqv (pr x) (pr y) = decide (x = y) := by
  obtain ⟨a, b⟩ := x
  obtain ⟨c, d⟩ := y
  by_cases h1 : a = c <;> by_cases h2 : b = d <;> simp [eqv, py, pys, PyData.eqv, PyData.eqvAll, h1, h2]
theorem dEq_pr {x y : Int × Int} : dEq (pr x) (pr y) = .ok (.bl (decide (x = y))) := by
  unfold dEq
  rw [if_pos (by rfl), eqv_pr]
theorem dNe_pr {x y : Int × Int} : dNe (pr x) (pr y) = .ok (.bl (!decide (x = y))) := by
  unfold dNe
  rw [if_pos (by rfl), eqv_pr]
end M
end

/-! text L8 -/
section
set_option maxRecDepth 100000
set_option maxHeartbeats 4000000
namespace M
open PySem DL
abbrev ab (i : Int) : Int := if i < 0 then -i else i
def nBody : GS := (gSeq (gAsg (gPure (gBin dMod (gCB dInt (aCons (gVar 6) aNil)) (gCB dLen (aCons (gVar 2) aNil)))) (gtName 7)) (gIfS (gB (gBin dGe (gBin dIx (gVar 2) (gVar 7)) (gBin dPow (gC (.int 10)) (gC (.int 18))))) (gSeq (gDrop (gApp 5 (gPure (gBin dMod (gCB dInt (aCons (gBin dIx (gVar 2) (gVar 7)) aNil)) (gC (.int 65536)))))) (gSetI 2 (gVar 7) (gPure (gBin dDiv (gBin dIx (gVar 2) (gVar 7)) (gC (.int 65536)))))) (gSeq (gSetI 4 (gVar 7) (gPure (gBin dMod (gCB dInt (aCons (gBin dAdd (gBin dAdd (gBin dMul (gBin dIx (gVar 4) (gVar 7)) (gC (.int 16807))) (gC (.int 12345))) (gBin dMul (gC (.int 7919)) (gVar 6))) aNil)) (gC (.int 2147483647))))) (gDrop (gApp 5 (gPure (gBin dMod (gCB dInt (aCons (gBin dAdd (gBin dIx (gVar 2) (gVar 7)) (gBin dDiv (gBin dIx (gVar 4) (gVar 7)) (gC (.int 5)))) aNil)) (gC (.int 65536)))))))))
/-- the loop's invariant -/
def NI (S A : Option DV) (i : Nat) (ρ : EnvD) : Prop := ∃ (rest mixed out : List Int) (x t u : Option DV), ρ = [S, A, some (di rest), x, some (di mixed), some (di out), t, u] ∧
  rest.length = mixed.length ∧ 0 < rest.length ∧ rest.length ≤ 64 ∧ (∀ z ∈ mixed, z.natAbs < 2 ^ 32) ∧ out.length = i ∧ ∀ z ∈ out, 0 ≤ z ∧ z < 65536
theorem n_turn {S A : Option DV} {i : Nat} {ρ : EnvD} (hi : i < 1000) (h : NI S A i ρ) : ∃ ρ1 ρ2, gtName 6 (.int ((0 : Int) + (i : Int))) ρ = .ok ρ1 ∧ nBody ρ1 = .nx ρ2 ∧ NI S A (i + 1) ρ2 := by
  obtain ⟨rest, mixed, out, x, t, u, rfl, h1, h2, h3, h4, h5, h6⟩ := h
  refine ⟨[S, A, some (di rest), x, some (di mixed), some (di out), some (.int ((0 : Int) + (i : Int))), u], ?_⟩
  have hp : (0 : Int) < (rest.length : Int) := by omega
  have hk : i % rest.length < rest.length := Nat.mod_lt _ h2
  have hk2 : i % rest.length < mixed.length := h1 ▸ hk
  have e1 : ((0 : Int) + (i : Int)) % (rest.length : Int) = ((i % rest.length : Nat) : Int) := by
    rw [Int.zero_add]
    rfl
  have a1 : gAsg (gPure (gBin dMod (gCB dInt (aCons (gVar 6) aNil)) (gCB dLen (aCons (gVar 2) aNil)))) (gtName 7) [S, A, some (di rest), x, some (di mixed), some (di out), some (.int ((0 : Int) + (i : Int))), u] = .nx [S, A, some (di rest), x, some (di mixed), some (di out), some (.int ((0 : Int) + (i : Int))), some (.int ((i % rest.length : Nat) : Int))] := by
    simp only [gAsg, ev_pure, ev_bin, ev_cb, ev_cons, ev_nil, ev_var, lk_s, lk_0, Rs.bind, dInt_i, dLen_i, dMod_i hp, e1, gtName]
    rfl
  have g1 : dIx (di rest) (.int ((i % rest.length : Nat) : Int)) = .ok (.int rest[i % rest.length]) := dIx_i hk
  have g2 : dIx (di mixed) (.int ((i % rest.length : Nat) : Int)) = .ok (.int mixed[i % rest.length]) := dIx_i hk2
  have lo : out.length < sizeLine := by rw [h5, sz_eq]; omega
  by_cases hb : (10 : Int) ^ 18 ≤ rest[i % rest.length]
  · refine ⟨[S, A, some (di (rest.set (i % rest.length) (rest[i % rest.length] / 65536))), x, some (di mixed), some (di (out ++ [rest[i % rest.length] % 65536])), some (.int ((0 : Int) + (i : Int))), some (.int ((i % rest.length : Nat) : Int))], rfl, ?_, ?_⟩
    · unfold nBody
      rw [ev_seq a1]
      have p18 : dPow (.int 10) (.int 18) = .ok (.int (10 ^ 18)) := rfl
      have q1 : decide ((10 : Int) ^ 18 ≤ rest[i % rest.length]) = true := decide_eq_true hb
      have m1 : ∀ z : Int, dMod (.int z) (.int 65536) = .ok (.int (z % 65536)) := fun z => dMod_i (by decide)
      have v1 : ∀ z : Int, dDiv (.int z) (.int 65536) = .ok (.int (z / 65536)) := fun z => dDiv_i (by decide) (by decide)
      have lo2 : (out.map DV.int).length < sizeLine := by rw [List.length_map]; exact lo
      have st : ∀ y : Int, setD (di rest) (.int ((i % rest.length : Nat) : Int)) (.int y) = .ok (di (rest.set (i % rest.length) y)) := fun y => setD_i hk
      simp only [gIfS, ev_b, ev_bin, ev_var, lk_s, lk_0, ev_c, Rs.bind, g1, p18, dGe_i, q1, ev_asB, if_true, gSeq, gDrop, gApp, ev_pure, ev_cb, ev_cons, ev_nil, dInt_i, m1, lo2, gSetI, List.set_cons_succ, List.set_cons_zero, v1, st]
      simp [List.map_append]
    · refine ⟨_, _, _, _, _, _, rfl, by rw [List.length_set]; exact h1, by rw [List.length_set]; exact h2, by rw [List.length_set]; exact h3, h4, by rw [List.length_append, h5]; rfl, fun z hz => ?_⟩
      rcases List.mem_append.mp hz with hz | hz
      · exact h6 z hz
      · rw [List.mem_singleton.mp hz]
        omega
  · have hm : mixed[i % rest.length].natAbs < 2 ^ 64 := Nat.lt_of_lt_of_le (h4 _ (List.getElem_mem hk2)) (by decide)
    have u1 : mulOk mixed[i % rest.length] 16807 = true := by
      unfold mulOk
      rw [decide_eq_true hm, Bool.true_or]
    have u2 : mulOk 7919 ((0 : Int) + (i : Int)) = true := by
      unfold mulOk
      rw [decide_eq_true (by decide : (7919 : Int).natAbs < 2 ^ 64), Bool.true_or]
    have p18 : dPow (.int 10) (.int 18) = .ok (.int (10 ^ 18)) := rfl
    have q1 : decide ((10 : Int) ^ 18 ≤ rest[i % rest.length]) = false := decide_eq_false hb
    have m1 : ∀ z : Int, dMod (.int z) (.int 65536) = .ok (.int (z % 65536)) := fun z => dMod_i (by decide)
    have m2 : ∀ z : Int, dMod (.int z) (.int 2147483647) = .ok (.int (z % 2147483647)) := fun z => dMod_i (by decide)
    have v1 : ∀ z : Int, dDiv (.int z) (.int 5) = .ok (.int (z / 5)) := fun z => dDiv_i (by decide) (by decide)
    have lo2 : (out.map DV.int).length < sizeLine := by rw [List.length_map]; exact lo
    have st : ∀ y : Int, setD (di mixed) (.int ((i % rest.length : Nat) : Int)) (.int y) = .ok (di (mixed.set (i % rest.length) y)) := fun y => setD_i hk2
    have g3 : ∀ y : Int, dIx (di (mixed.set (i % rest.length) y)) (.int ((i % rest.length : Nat) : Int)) = .ok (.int y) := fun y => by
      have z := dIx_i (xs := mixed.set (i % rest.length) y) (k := i % rest.length) (by rw [List.length_set]; exact hk2)
      rw [z, List.getElem_set_self]
    refine ⟨[S, A, some (di rest), x, some (di (mixed.set (i % rest.length) ((mixed[i % rest.length] * 16807 + 12345 + 7919 * ((0 : Int) + (i : Int))) % 2147483647))), some (di (out ++ [(rest[i % rest.length] + (mixed[i % rest.length] * 16807 + 12345 + 7919 * ((0 : Int) + (i : Int))) % 2147483647 / 5) % 65536])), some (.int ((0 : Int) + (i : Int))), some (.int ((i % rest.length : Nat) : Int))], rfl, ?_, ?_⟩
    · unfold nBody
      rw [ev_seq a1]
      simp only [gIfS, ev_b, ev_bin, ev_var, lk_s, lk_0, ev_c, Rs.bind, g1, g2, g3, p18, dGe_i, q1, ev_asB, if_false, Bool.false_eq_true, gSeq, gDrop, gApp, ev_pure, ev_cb, ev_cons, ev_nil, dInt_i, m1, m2, lo2, if_true, gSetI, List.set_cons_succ, List.set_cons_zero, v1, st, dMul_i u1, dMul_i u2, dAdd_i]
      simp [List.map_append]
    · refine ⟨_, _, _, _, _, _, rfl, by rw [List.length_set]; exact h1, h2, h3, fun z hz => ?_, by rw [List.length_append, h5]; rfl, fun z hz => ?_⟩
      · rcases List.mem_or_eq_of_mem_set hz with hz | hz
        · exact h4 z hz
        · rw [hz]
          omega
      · rcases List.mem_append.mp hz with hz | hz
        · exact h6 z hz
        · rw [List.mem_singleton.mp hz]
          omega
end M
end

/-! text L9 -/
section
set_option maxRecDepth 100000
set_option maxHeartbeats 4000000
namespace M
open PySem DL
theorem lc_abs {ns : List Int} (hl : ns.length ≤ 63) : gLc (gSeqI (gSl (gVar 0) gNoPart (gPart (gC (.int 63))))) (gtName 3) gYes (gCB dAbs (aCons (gVar 3) aNil)) [3] [some (di ns), some (.int 260), none, none, none, none, none, none] = .ok (di (ns.map ab)) := by
  have e1 : gSeqI (gSl (gVar 0) gNoPart (gPart (gC (.int 63)))) [some (di ns), some (.int 260), none, none, none, none, none, none] = .ok (ns.map DV.int) := by
    have c : cutD (ns.map DV.int) none (some (63 : Int)) = ns.map DV.int := by
      rw [show (63 : Int) = ((63 : Nat) : Int) from rfl, cut_front, List.take_of_length_le (by rw [List.length_map]; exact hl)]
    simp only [gSeqI, gSl, ev_var, lk_0, Rs.bind, gNoPart, gPart, ev_c, dSl, c]
    rfl
  unfold gLc
  rw [e1]
  show (if (ns.map DV.int).length ≤ sizeLine then _ else _) = _
  rw [if_pos (by rw [List.length_map, sz_eq]; omega)]
  rw [lcLoop_map (f := ab) fun x _ => rfl]
theorem lc_mix {rest : List Int} {A B : Option DV} (h3 : rest.length ≤ 64) : gLc (gSeqI (gVar 2)) (gtName 3) gYes (gBin dMod (gCB dInt (aCons (gBin dAdd (gBin dMul (gVar 3) (gC (.int 48271))) (gC (.int 11))) aNil)) (gC (.int 2147483647))) [3] [A, B, some (di rest), none, none, none, none, none] = .ok (di (rest.map fun c => (c * 48271 + 11) % 2147483647)) := by
  have u : ∀ c : Int, mulOk c 48271 = true := fun c => by
    unfold mulOk
    rw [decide_eq_true (by decide : (48271 : Int).natAbs < 2 ^ 64), Bool.true_or, Bool.or_true]
  unfold gLc
  show (if (rest.map DV.int).length ≤ sizeLine then _ else _) = _
  rw [if_pos (by rw [List.length_map, sz_eq]; omega)]
  rw [lcLoop_map (f := fun c => (c * 48271 + 11) % 2147483647) fun x _ => by
    have m : ∀ z : Int, dMod (.int z) (.int 2147483647) = .ok (.int (z % 2147483647)) := fun z => dMod_i (by decide)
    simp only [lcTurn, gtName, wipeD, gYes, Rs.bind, List.set_cons_succ, List.set_cons_zero, ev_bin, ev_cb, ev_cons, ev_nil, ev_var, lk_s, lk_0, ev_c, dMul_i (u x), dAdd_i, dInt_i, m, if_true]]
end M
end

/-! text L10 -/
section
set_option maxRecDepth 100000
set_option maxHeartbeats 4000000
namespace M
open PySem DL
theorem forG_rngB {tg : GG} {b : GS} (N : Nat) (I : Nat → EnvD → Prop) (hi : ∀ (i : Nat) (ρ : EnvD), i < N → I i ρ → ∃ ρ1 ρ2, tg (.int ((0 : Int) + (i : Int))) ρ = .ok ρ1 ∧ b ρ1 = .nx ρ2 ∧ I (i + 1) ρ2)
    (n i : Nat) (ρ : EnvD) (hn : i + n ≤ N) (h : I i ρ) : ∃ ρ', forG tg b ((List.range' i n).map fun k : Nat => DV.int ((0 : Int) + (k : Int))) ρ = .nx ρ' ∧ I (i + n) ρ' := by
  induction n generalizing i ρ with
  | zero => exact ⟨ρ, rfl, h⟩
  | succ n ih =>
    obtain ⟨ρ1, ρ2, e1, e2, h2⟩ := hi i ρ (by omega) h
    obtain ⟨ρ', e3, h3⟩ := ih (i + 1) ρ2 (by omega) h2
    refine ⟨ρ', ?_, by rw [show i + (n + 1) = i + 1 + n by omega]; exact h3⟩
    rw [List.range'_succ, List.map_cons]
    unfold forG
    rw [e1]
    dsimp only
    rw [e2]
    exact e3
abbrev rest0 (ns : List Int) : List Int := if ns = [] then [0] else ns.map ab
theorem rest0_len {ns : List Int} (hl : ns.length ≤ 63) : 0 < (rest0 ns).length ∧ (rest0 ns).length ≤ 64 := by
  unfold rest0
  split
  · exact ⟨by decide, by decide⟩
  · rename_i h
    rw [List.length_map]
    exact ⟨List.length_pos_iff.mpr h, by omega⟩
theorem numbers_ok {ns : List Int} (hl : ns.length ≤ 63) : ∃ xs : List Int, m__law_numbers [di ns, .int 260] = .ok (di xs) ∧ xs.length = 260 ∧ ∀ z ∈ xs, 0 ≤ z ∧ z < 65536 := by
  obtain ⟨r1, r2⟩ := rest0_len hl
  have s1 : gAsg (gPure (gBin dAdd (gLc (gSeqI (gSl (gVar 0) gNoPart (gPart (gC (.int 63))))) (gtName 3) gYes (gCB dAbs (aCons (gVar 3) aNil)) [3]) (eLst (aCons (gC (.int 0)) aNil)))) (gtName 2) [some (di ns), some (.int 260), none, none, none, none, none, none] = .nx [some (di ns), some (.int 260), some (di (ns.map ab ++ [0])), none, none, none, none, none] := by
    have a : dAdd (di (ns.map ab)) (.lst [.int 0]) = .ok (di (ns.map ab ++ [0])) := by
      have : ((ns.map ab).map DV.int).length + ([DV.int 0] : List DV).length ≤ sizeLine := by
        rw [List.length_map, List.length_map, sz_eq]
        show ns.length + 1 ≤ _
        omega
      show (match (match (Rs.stuck : Rs DV) with | .stuck => (match dCat (di (ns.map ab)) (.lst [.int 0]) with | .stuck => dCatS (di (ns.map ab)) (.lst [.int 0]) | r => r) | r => r) with | r => r) = _
      simp only [dCat, this, if_true]
      simp [List.map_append]
    have l1 : ([DV.int 0] : List DV).length ≤ sizeLine := by decide
    simp only [gAsg, ev_pure, ev_bin, lc_abs hl, Rs.bind, ev_lst, ev_cons, ev_nil, ev_c, l1, if_true, a, gtName]
    rfl
  have s2 : ∀ k : GS, gSeq (gIfS (gB (gBin dGt (gCB dLen (aCons (gVar 0) aNil)) (gC (.int 0)))) (gAsg (gPure (gSl (gVar 2) gNoPart (gPart (gUn dNeg (gC (.int 1)))))) (gtName 2)) gNext) k [some (di ns), some (.int 260), some (di (ns.map ab ++ [0])), none, none, none, none, none] = k [some (di ns), some (.int 260), some (di (rest0 ns)), none, none, none, none, none] := fun k => by
    have t1 : gB (gBin dGt (gCB dLen (aCons (gVar 0) aNil)) (gC (.int 0))) [some (di ns), some (.int 260), some (di (ns.map ab ++ [0])), none, none, none, none, none] = .ok (decide (0 < (ns.length : Int))) := by
      simp only [ev_b, ev_bin, ev_cb, ev_cons, ev_nil, ev_var, lk_0, Rs.bind, dLen_i, ev_c, dGt_i, ev_asB]
    refine ev_seq ?_
    rw [ev_ifS t1]
    by_cases h : ns = []
    · subst h
      rfl
    · have hp := List.length_pos_iff.mpr h
      rw [if_pos (decide_eq_true (by omega))]
      have c : cutD ((ns.map ab ++ [0]).map DV.int) none (some (-1)) = (rest0 ns).map DV.int := by
        rw [cut_last, ← List.map_take]
        unfold rest0
        rw [if_neg h]
        congr 1
        simp
      simp only [gAsg, ev_pure, gSl, ev_var, lk_s, lk_0, Rs.bind, gNoPart, gPart, ev_un, ev_c, dNeg_i, dSl, c, gtName]
      rfl
  have s3 : gAsg (gPure (gLc (gSeqI (gVar 2)) (gtName 3) gYes (gBin dMod (gCB dInt (aCons (gBin dAdd (gBin dMul (gVar 3) (gC (.int 48271))) (gC (.int 11))) aNil)) (gC (.int 2147483647))) [3])) (gtName 4) [some (di ns), some (.int 260), some (di (rest0 ns)), none, none, none, none, none] = .nx [some (di ns), some (.int 260), some (di (rest0 ns)), none, some (di ((rest0 ns).map fun c => (c * 48271 + 11) % 2147483647)), none, none, none] := by
    simp only [gAsg, ev_pure, lc_mix r2, Rs.bind, gtName]
    rfl
  have s4 : ∀ ρ, gAsg (gPure (eLst aNil)) (gtName 5) ρ = .nx (ρ.set 5 (some (di []))) := fun ρ => rfl
  obtain ⟨ρ', f1, rest, mixed, out, x, t, u, e0, _, _, _, _, h5, h6⟩ := forG_rngB (tg := gtName 6) (b := nBody) 260 (NI (some (di ns)) (some (.int 260))) (fun i ρ hi h => n_turn (by omega) h) 260 0 [some (di ns), some (.int 260), some (di (rest0 ns)), none, some (di ((rest0 ns).map fun c => (c * 48271 + 11) % 2147483647)), some (di []), none, none] (by omega)
    ⟨rest0 ns, (rest0 ns).map fun c => (c * 48271 + 11) % 2147483647, [], none, none, none, rfl, by rw [List.length_map], r1, r2, fun z hz => by
      obtain ⟨c, _, rfl⟩ := List.mem_map.mp hz
      omega, rfl, fun z hz => by simp at hz⟩
  have s5 : gFor (gRng1 (aCons (gVar 1) aNil)) (gtName 6) nBody [some (di ns), some (.int 260), some (di (rest0 ns)), none, some (di ((rest0 ns).map fun c => (c * 48271 + 11) % 2147483647)), some (di []), none, none] = .nx ρ' := by
    unfold gFor
    have e2 : gRng1 (aCons (gVar 1) aNil) [some (di ns), some (.int 260), some (di (rest0 ns)), none, some (di ((rest0 ns).map fun c => (c * 48271 + 11) % 2147483647)), some (di []), none, none] = .ok (rngD 0 260) := rfl
    rw [e2]
    dsimp only
    rw [rngD_eq]
    exact f1
  refine ⟨out, ?_, by omega, h6⟩
  unfold m__law_numbers runB b__law_numbers
  show finB (gSeq _ _ [some (di ns), some (.int 260), none, none, none, none, none, none]) = _
  rw [ev_seq s1, s2, ev_seq s3, ev_seq (s4 _)]
  show finB (gSeq (gFor _ _ nBody) (gRet (gMove 5)) [some (di ns), some (.int 260), some (di (rest0 ns)), none, some (di ((rest0 ns).map fun c => (c * 48271 + 11) % 2147483647)), some (di []), none, none]) = _
  rw [ev_seq s5, e0]
  rfl
end M
end

/-! text Q1 -/
section
set_option maxRecDepth 100000
set_option maxHeartbeats 4000000
namespace M
open PySem DL
abbrev dp (zs : List (Int × Int)) : DV := .lst (zs.map pr)
/-- small enough to be added -/
def Gd (z : Int × Int) : Prop := z.1.natAbs < 2 ^ 301 ∧ z.2.natAbs < 2 ^ 251 ∧ 0 < z.2
theorem Gd.sm {z : Int × Int} (h : Gd z) : Sm z := ⟨Nat.lt_of_lt_of_le h.1 (Nat.pow_le_pow_right (by decide) (by decide)), Nat.lt_of_lt_of_le h.2.1 (Nat.pow_le_pow_right (by decide) (by decide))⟩
theorem den9 {b : Int} (h : b.natAbs < 2 ^ 1999) : b.natAbs.log2 < 9000 := Nat.lt_of_lt_of_le (PySem.Flt.log2_lt_of (by decide) h) (by decide)
theorem pw {m n : Nat} : (2 : Nat) ^ (m + n) = 2 ^ m * 2 ^ n := Nat.pow_add ..
theorem sum_sz {x y : Int × Int} {k : Nat} (hx1 : x.1.natAbs < 2 ^ (302 * k + 1)) (hx2 : x.2.natAbs < 2 ^ (252 * k + 1)) (hy : Gd y) :
    (x.1 * y.2 + y.1 * x.2).natAbs < 2 ^ (302 * (k + 1) + 1) ∧ (x.2 * y.2).natAbs < 2 ^ (252 * (k + 1) + 1) := by
  have h1 : (x.1 * y.2).natAbs < 2 ^ (302 * k + 1 + 251) := by
    rw [Int.natAbs_mul, pw]
    exact Nat.mul_lt_mul'' hx1 hy.2.1
  have h2 : (y.1 * x.2).natAbs < 2 ^ (301 + (252 * k + 1)) := by
    rw [Int.natAbs_mul, pw]
    exact Nat.mul_lt_mul'' hy.1 hx2
  have h3 : (x.2 * y.2).natAbs < 2 ^ (252 * k + 1 + 251) := by
    rw [Int.natAbs_mul, pw]
    exact Nat.mul_lt_mul'' hx2 hy.2.1
  have q1 : (2 : Nat) ^ (302 * k + 1 + 251) ≤ 2 ^ (302 * k + 302) := Nat.pow_le_pow_right (by decide) (by omega)
  have q2 : (2 : Nat) ^ (301 + (252 * k + 1)) ≤ 2 ^ (302 * k + 302) := Nat.pow_le_pow_right (by decide) (by omega)
  have q3 : (2 : Nat) ^ (302 * (k + 1) + 1) = 2 * 2 ^ (302 * k + 302) := by
    rw [show 302 * (k + 1) + 1 = 1 + (302 * k + 302) by omega, pw]
  refine ⟨?_, Nat.lt_of_lt_of_le h3 (Nat.pow_le_pow_right (by decide) (by omega))⟩
  rw [q3]
  have := Int.natAbs_add_le (x.1 * y.2) (y.1 * x.2)
  omega
/-- one more -/
def fp (x y : Int × Int) : Int × Int := low (x.1 * y.2 + y.1 * x.2) (x.2 * y.2)
/-- the sum, taken from the left -/
def asum (x : Int × Int) (zs : List (Int × Int)) : Int × Int := zs.foldl fp x
def aBody : GS := gAsg (gPure (gCB m_plus (aCons (gVar 1) (aCons (gVar 2) aNil)))) (gtName 1)
def lBody : GS := gAsg (gPure (gCB m__law_plus (aCons (gVar 1) (aCons (gVar 2) aNil)))) (gtName 1)
theorem forG_cons {tg : GG} {b : GS} {d : DV} {ds : List DV} {ρ ρ1 ρ2 : EnvD} (h1 : tg d ρ = .ok ρ1) (h2 : b ρ1 = .nx ρ2) : forG tg b (d :: ds) ρ = forG tg b ds ρ2 := by
  conv => lhs; unfold forG
  rw [h1]
  dsimp only
  rw [h2]
theorem forG_consR {tg : GG} {b : GS} {d e : DV} {ds : List DV} {ρ ρ1 ρ2 : EnvD} (h1 : tg d ρ = .ok ρ1) (h2 : b ρ1 = .rt e ρ2) : forG tg b (d :: ds) ρ = .rt e ρ2 := by
  conv => lhs; unfold forG
  rw [h1]
  dsimp only
  rw [h2]
theorem sums {A : Option DV} : ∀ (zs : List (Int × Int)) (k : Nat) (x : Int × Int) (t u : Option DV), (∀ z ∈ zs, Gd z) → k + zs.length ≤ 6 → x.1.natAbs < 2 ^ (302 * k + 1) → x.2.natAbs < 2 ^ (252 * k + 1) → 0 < x.2 →
    ∃ (t' u' : Option DV), forG (gtName 2) aBody (zs.map pr) [A, some (pr x), t] = .nx [A, some (pr (asum x zs)), t'] ∧ forG (gtName 2) lBody (zs.map pr) [A, some (pr x), u] = .nx [A, some (pr (asum x zs)), u']
  | [], k, x, t, u, _, _, _, _, _ => ⟨t, u, rfl, rfl⟩
  | z :: zs, k, x, t, u, hz, hl, h1, h2, h3 => by
    have gz := hz z List.mem_cons_self
    obtain ⟨s1, s2⟩ := sum_sz h1 h2 gz
    have hl2 : k + 1 + zs.length ≤ 6 := by simp at hl; omega
    have n0 : x.2 * z.2 ≠ 0 := Int.mul_ne_zero (by omega) (by have := gz.2.2; omega)
    have b1 : (x.2 * z.2).natAbs < 2 ^ 1999 := Nat.lt_of_lt_of_le s2 (Nat.pow_le_pow_right (by decide) (by omega))
    have sx : Sm x := ⟨Nat.lt_of_lt_of_le h1 (Nat.pow_le_pow_right (by decide) (by omega)), Nat.lt_of_lt_of_le h2 (Nat.pow_le_pow_right (by decide) (by omega))⟩
    have e1 : m_plus [pr x, pr z] = .ok (pr (fp x z)) := by rw [plus_e sx gz.sm, fraction_ok n0 (den9 b1)]; rfl
    have e2 : m__law_plus [pr x, pr z] = .ok (pr (fp x z)) := by rw [lplus_e sx gz.sm, lowest_ok n0 b1]; rfl
    have l0 : 0 < (fp x z).2 := low_pos (p := x.1 * z.2 + z.1 * x.2) n0
    have ls : Sz _ _ (fp x z) := low_sz n0 s1 s2
    obtain ⟨t', u', f1, f2⟩ := sums (A := A) zs (k + 1) (fp x z) (some (pr z)) (some (pr z)) (fun w hw => hz w (List.mem_cons_of_mem _ hw)) hl2 ls.1 ls.2 l0
    have c1 : aBody [A, some (pr x), some (pr z)] = .nx [A, some (pr (fp x z)), some (pr z)] := by
      unfold aBody
      simp only [gAsg, gtName, ev_pure, ev_cb, ev_cons, ev_nil, ev_var, lk_s, lk_0, Rs.bind, e1]
      rfl
    have c2 : lBody [A, some (pr x), some (pr z)] = .nx [A, some (pr (fp x z)), some (pr z)] := by
      unfold lBody
      simp only [gAsg, gtName, ev_pure, ev_cb, ev_cons, ev_nil, ev_var, lk_s, lk_0, Rs.bind, e2]
      rfl
    refine ⟨t', u', ?_, ?_⟩
    · rw [List.map_cons, forG_cons (ρ1 := [A, some (pr x), some (pr z)]) rfl c1]
      exact f1
    · rw [List.map_cons, forG_cons (ρ1 := [A, some (pr x), some (pr z)]) rfl c2]
      exact f2
theorem added_ok {zs : List (Int × Int)} (h : ∀ z ∈ zs, Gd z) (hl : zs.length ≤ 6) : m_added [dp zs] = .ok (pr (asum (0, 1) zs)) ∧ m__law_added [dp zs] = .ok (pr (asum (0, 1) zs)) := by
  obtain ⟨t', u', f1, f2⟩ := sums (A := some (dp zs)) zs 0 (0, 1) none none h (by omega) (by decide) (by decide) (by decide)
  have sq : ∀ ρ : EnvD, lk ρ 0 = .ok (dp zs) → gSeqI (gVar 0) ρ = .ok (zs.map pr) := fun ρ h => by
    unfold gSeqI
    rw [ev_var, h]
    rfl
  constructor
  · unfold m_added runB b_added
    have s1 : gAsg (gPure (gC (.tup [(.int 0), (.int 1)]))) (gtName 1) [some (dp zs), none, none] = .nx [some (dp zs), some (pr (0, 1)), none] := rfl
    show finB (gSeq _ _ [some (dp zs), none, none]) = _
    rw [ev_seq s1]
    have s2 : gFor (gSeqI (gVar 0)) (gtName 2) aBody [some (dp zs), some (pr (0, 1)), none] = .nx [some (dp zs), some (pr (asum (0, 1) zs)), t'] := by
      unfold gFor
      rw [sq _ rfl]
      exact f1
    show finB (gSeq (gFor (gSeqI (gVar 0)) (gtName 2) aBody) _ [some (dp zs), some (pr (0, 1)), none]) = _
    rw [ev_seq s2]
    rfl
  · unfold m__law_added runB b__law_added
    have s1 : gAsg (gPure (eTup (aCons (gC (.int 0)) (aCons (gC (.int 1)) aNil)))) (gtName 1) [some (dp zs), none, none] = .nx [some (dp zs), some (pr (0, 1)), none] := by
      have l2 : 0 + 1 + 1 ≤ sizeLine := by decide
      simp only [gAsg, gtName, ev_pure, ev_tup, ev_cons, ev_nil, ev_c, Rs.bind, List.length_cons, List.length_nil, l2, if_true]
      rfl
    show finB (gSeq _ _ [some (dp zs), none, none]) = _
    rw [ev_seq s1]
    have s2 : gFor (gSeqI (gVar 0)) (gtName 2) lBody [some (dp zs), some (pr (0, 1)), none] = .nx [some (dp zs), some (pr (asum (0, 1) zs)), u'] := by
      unfold gFor
      rw [sq _ rfl]
      exact f2
    show finB (gSeq (gFor (gSeqI (gVar 0)) (gtName 2) lBody) _ [some (dp zs), some (pr (0, 1)), none]) = _
    rw [ev_seq s2]
    rfl
end M
end

/-! text Q2 -/
section
set_option maxRecDepth 100000
set_option maxHeartbeats 4000000
namespace M
open PySem DL
/-! weighted sums -/
theorem lcLoop_gen {α : Type} {h : DV → Rs (Option DV)} {g : α → DV} {f : α → DV} : ∀ {xs : List α}, (∀ x ∈ xs, h (g x) = .ok (some (f x))) → lcLoop h (xs.map g) = .ok (xs.map f)
  | [], _ => rfl
  | x :: xs, k => by
    rw [List.map_cons, List.map_cons]
    unfold lcLoop
    rw [k x List.mem_cons_self]
    dsimp only [Rs.bind]
    rw [lcLoop_gen (xs := xs) fun y hy => k y (List.mem_cons_of_mem _ hy)]
    rfl
theorem lcLoop_rng {h : DV → Rs (Option DV)} {n : Nat} {f : Nat → DV} (k : ∀ i, i < n → h (.int ((0 : Int) + (i : Int))) = .ok (some (f i))) : lcLoop h (rngD 0 n) = .ok ((List.range n).map f) := by
  unfold rngD
  exact lcLoop_gen (g := fun i : Nat => DV.int ((0 : Int) + (i : Int))) fun i hi => k i (List.mem_range.mp hi)
theorem dIx_g {α : Type} {g : α → DV} {xs : List α} {z : Int} (k : Nat) (e : z = (k : Int)) (h : k < xs.length) : dIx (.lst (xs.map g)) (.int z) = .ok (g xs[k]) := by
  subst e
  unfold dIx L2.atI
  simp only [List.length_map]
  rw [ixN_nat h]
  simp [ofO, h]
theorem dLen_g {α : Type} {g : α → DV} {xs : List α} : dLen [.lst (xs.map g)] = .ok (.int xs.length) := by
  simp [dLen]
theorem getD_lt {α : Type} {l : List α} {i : Nat} {d : α} (h : i < l.length) : l.getD i d = l[i] := by
  rw [List.getD_eq_getElem?_getD, List.getElem?_eq_getElem h]
  rfl
theorem four1 : (4 : Nat) < 2 ^ 1999 := Nat.lt_of_lt_of_le (by decide : 4 < 2 ^ 3) (Nat.pow_le_pow_right (by decide) (by decide))
/-- small weights -/
def Wt (w : Int × Int) : Prop := w.1.natAbs ≤ 12 ∧ 1 ≤ w.2 ∧ w.2 ≤ 4
def wl (ns : List Int) (ws : List (Int × Int)) : List (Int × Int) := List.zipWith (fun n w => low (n * w.1) w.2) ns ws
def wsum (ns : List Int) (ws : List (Int × Int)) : Int × Int := asum (0, 1) (wl ns ws)
theorem mulT {a b : Int} (h : a.natAbs ≤ 1000) : mulOk a b = true := by
  unfold mulOk
  rw [decide_eq_true (Nat.lt_of_le_of_lt h (by decide)), Bool.true_or]
theorem wl_gd : ∀ {ns : List Int} {ws : List (Int × Int)}, (∀ n ∈ ns, n.natAbs ≤ 100) → (∀ w ∈ ws, Wt w) → ∀ z ∈ wl ns ws, Gd z
  | [], _, _, _, z, hz => by simp [wl] at hz
  | _ :: _, [], _, _, z, hz => by simp [wl] at hz
  | n :: ns, w :: ws, hn, hw, z, hz => by
    have e : wl (n :: ns) (w :: ws) = low (n * w.1) w.2 :: wl ns ws := rfl
    rw [e] at hz
    rcases List.mem_cons.mp hz with hz | hz
    · subst hz
      have h1 := hn n List.mem_cons_self
      obtain ⟨h2, h3, h4⟩ := hw w List.mem_cons_self
      have n0 : w.2 ≠ 0 := by omega
      have p1 : (n * w.1).natAbs < 2 ^ 301 := by
        rw [Int.natAbs_mul]
        exact Nat.lt_of_le_of_lt (Nat.mul_le_mul h1 h2) (by decide)
      have p2 : w.2.natAbs < 2 ^ 251 := Nat.lt_of_le_of_lt (by omega : _ ≤ 4) (by decide)
      exact ⟨(low_sz n0 p1 p2).1, (low_sz n0 p1 p2).2, low_pos n0⟩
    · exact wl_gd (fun m hm => hn m (List.mem_cons_of_mem _ hm)) (fun m hm => hw m (List.mem_cons_of_mem _ hm)) z hz
theorem wl_len {ns : List Int} {ws : List (Int × Int)} (h : ns.length ≤ ws.length) : (wl ns ws).length = ns.length := by
  unfold wl
  rw [List.length_zipWith]
  omega
theorem wl_map {ns : List Int} {ws : List (Int × Int)} (h : ns.length ≤ ws.length) : (List.range ns.length).map (fun i => pr (low (ns.getD i 0 * (ws.getD i (0, 1)).1) (ws.getD i (0, 1)).2)) = (wl ns ws).map pr := by
  refine List.ext_getElem (by simp [wl_len h]) fun i h1 h2 => ?_
  have hi : i < ns.length := by simpa using h1
  simp only [List.getElem_map, List.getElem_range]
  have e : (wl ns ws)[i]'(by rw [wl_len h]; exact hi) = low (ns[i] * (ws[i]'(by omega)).1) (ws[i]'(by omega)).2 := by
    unfold wl
    rw [List.getElem_zipWith]
  rw [e, getD_lt hi, getD_lt (by omega : i < ws.length)]
theorem weighted_ok {ns : List Int} {ws : List (Int × Int)} (hn : ∀ n ∈ ns, n.natAbs ≤ 100) (hw : ∀ w ∈ ws, Wt w) (h : ns.length ≤ ws.length) (hl : ns.length ≤ 6) :
    m_weighted [di ns, dp ws] = .ok (pr (wsum ns ws)) ∧ m__law_weighted [di ns, dp ws] = .ok (pr (wsum ns ws)) := by
  obtain ⟨a1, a2⟩ := added_ok (wl_gd hn hw) (by rw [wl_len h]; exact hl)
  have ro : rngOk (ns.length : Int) = true := by unfold rngOk; simp; omega
  have ls : (rngD 0 ns.length).length ≤ sizeLine := by unfold rngD; rw [List.length_map, List.length_range, sz_eq]; omega
  have r1 : ∀ ρ : EnvD, lk ρ 0 = .ok (di ns) → gRng1 (aCons (gCB dLen (aCons (gVar 0) aNil)) aNil) ρ = .ok (rngD 0 ns.length) := fun ρ e => by
    simp only [gRng1, ev_pure, ev_bin, ev_cb, ev_un, ev_cons, ev_nil, ev_var, ev_b, ev_asB, lk_s, lk_0, ev_c, Rs.bind, e, dLen_i, dRng1, ro, if_true, Int.toNat_natCast]
  have g0 : ∀ i, i < ns.length → dIx (di ns) (.int ((0 : Int) + (i : Int))) = .ok (.int (ns.getD i 0)) := fun i hi => by
    rw [dIx_g (g := DV.int) i (by omega) hi, getD_lt hi]
  have g1 : ∀ i, i < ns.length → dIx (dp ws) (.int ((0 : Int) + (i : Int))) = .ok (pr (ws.getD i (0, 1))) := fun i hi => by
    rw [dIx_g (g := pr) i (by omega) (by omega), getD_lt (by omega)]
  have w0 : ∀ i, i < ns.length → Wt (ws.getD i (0, 1)) := fun i hi => by
    rw [getD_lt (by omega : i < ws.length)]
    exact hw _ (List.getElem_mem _)
  have n0 : ∀ i, i < ns.length → (ns.getD i 0).natAbs ≤ 100 := fun i hi => by
    rw [getD_lt hi]
    exact hn _ (List.getElem_mem _)
  have m0 : ∀ i, i < ns.length → dMul (.int (ns.getD i 0)) (.int (ws.getD i (0, 1)).1) = .ok (.int (ns.getD i 0 * (ws.getD i (0, 1)).1)) := fun i hi => dMul_i (mulT (Nat.le_trans (n0 i hi) (by decide)))
  have f0 : ∀ i, i < ns.length → m_fraction [.int (ns.getD i 0 * (ws.getD i (0, 1)).1), .int (ws.getD i (0, 1)).2] = .ok (pr (low (ns.getD i 0 * (ws.getD i (0, 1)).1) (ws.getD i (0, 1)).2)) := fun i hi => by
    obtain ⟨_, h3, h4⟩ := w0 i hi
    exact fraction_ok (by omega) (den9 (Nat.lt_of_le_of_lt (by omega : _ ≤ 4) four1))
  have f1 : ∀ i, i < ns.length → m__law_lowest [.int (ns.getD i 0 * (ws.getD i (0, 1)).1), .int (ws.getD i (0, 1)).2] = .ok (pr (low (ns.getD i 0 * (ws.getD i (0, 1)).1) (ws.getD i (0, 1)).2)) := fun i hi => by
    obtain ⟨_, h3, h4⟩ := w0 i hi
    exact lowest_ok (by omega) (Nat.lt_of_le_of_lt (by omega : _ ≤ 4) four1)
  constructor
  · have key : gLc (gRng1 (aCons (gCB dLen (aCons (gVar 0) aNil)) aNil)) (gtName 2) gYes (gNX (gCB m_fraction (aCons (gBin dMul (gBin dIx (gVar 0) (gVar 2)) (gBin dIx (gBin dIx (gVar 1) (gVar 2)) (gC (.int 0)))) (aCons (gBin dIx (gBin dIx (gVar 1) (gVar 2)) (gC (.int 1))) aNil)))) [2] [some (di ns), some (dp ws), none] = .ok (dp (wl ns ws)) := by
      unfold gLc
      rw [r1 _ rfl]
      dsimp only [Rs.bind]
      rw [if_pos ls, lcLoop_rng (f := fun i => pr (low (ns.getD i 0 * (ws.getD i (0, 1)).1) (ws.getD i (0, 1)).2)) fun i hi => by
        simp only [lcTurn, gtName, wipeD, gYes, gNX, List.set_cons_succ, List.set_cons_zero, ev_pure, ev_bin, ev_cb, ev_un, ev_cons, ev_nil, ev_var, ev_b, ev_asB, lk_s, lk_0, ev_c, Rs.bind, g0 i hi, g1 i hi, ix0, ix1, m0 i hi, f0 i hi, if_true], wl_map h]
    unfold m_weighted runB b_weighted
    have q : gPure (gCB m_added (aCons (gLc (gRng1 (aCons (gCB dLen (aCons (gVar 0) aNil)) aNil)) (gtName 2) gYes (gNX (gCB m_fraction (aCons (gBin dMul (gBin dIx (gVar 0) (gVar 2)) (gBin dIx (gBin dIx (gVar 1) (gVar 2)) (gC (.int 0)))) (aCons (gBin dIx (gBin dIx (gVar 1) (gVar 2)) (gC (.int 1))) aNil)))) [2]) aNil)) [some (di ns), some (dp ws), none] = .ok (pr (wsum ns ws), [some (di ns), some (dp ws), none]) := by
      rw [ev_pure, ev_cb, ev_cons, key]
      simp only [Rs.bind, ev_nil, a1, wsum]
    have st : startD 3 [di ns, dp ws] = [some (di ns), some (dp ws), none] := rfl
    rw [st, ev_ret q]
    rfl
  · have key : gLc (gRng1 (aCons (gCB dLen (aCons (gVar 0) aNil)) aNil)) (gtName 2) gYes (gCB m__law_lowest (aCons (gBin dMul (gBin dIx (gVar 0) (gVar 2)) (gBin dIx (gBin dIx (gVar 1) (gVar 2)) (gC (.int 0)))) (aCons (gBin dIx (gBin dIx (gVar 1) (gVar 2)) (gC (.int 1))) aNil))) [2] [some (di ns), some (dp ws), none] = .ok (dp (wl ns ws)) := by
      unfold gLc
      rw [r1 _ rfl]
      dsimp only [Rs.bind]
      rw [if_pos ls, lcLoop_rng (f := fun i => pr (low (ns.getD i 0 * (ws.getD i (0, 1)).1) (ws.getD i (0, 1)).2)) fun i hi => by
        simp only [lcTurn, gtName, wipeD, gYes, List.set_cons_succ, List.set_cons_zero, ev_pure, ev_bin, ev_cb, ev_un, ev_cons, ev_nil, ev_var, ev_b, ev_asB, lk_s, lk_0, ev_c, Rs.bind, g0 i hi, g1 i hi, ix0, ix1, m0 i hi, f1 i hi, if_true], wl_map h]
    unfold m__law_weighted runB b__law_weighted
    have q : gPure (gCB m__law_added (aCons (gLc (gRng1 (aCons (gCB dLen (aCons (gVar 0) aNil)) aNil)) (gtName 2) gYes (gCB m__law_lowest (aCons (gBin dMul (gBin dIx (gVar 0) (gVar 2)) (gBin dIx (gBin dIx (gVar 1) (gVar 2)) (gC (.int 0)))) (aCons (gBin dIx (gBin dIx (gVar 1) (gVar 2)) (gC (.int 1))) aNil))) [2]) aNil)) [some (di ns), some (dp ws), none] = .ok (pr (wsum ns ws), [some (di ns), some (dp ws), none]) := by
      rw [ev_pure, ev_cb, ev_cons, key]
      simp only [Rs.bind, ev_nil, a2, wsum]
    have st : startD 3 [di ns, dp ws] = [some (di ns), some (dp ws), none] := rfl
    rw [st, ev_ret q]
    rfl
end M
end

/-! text Q3 -/
section
set_option maxRecDepth 100000
set_option maxHeartbeats 4000000
namespace M
open PySem DL
/-! what the sums are worth -/
theorem gi_low {p q : Int} (h : q ≠ 0) : gi (low p q).1 (low p q).2 = 1 := by
  unfold low
  split
  · have g2 : gi (-p) (-q) = gi p q := by simp [gi]
    have z := gi_div (p := -p) (q := -q) (by omega)
    rw [g2] at z
    exact z
  · exact gi_div h
theorem low_cross {p q : Int} (h : q ≠ 0) : (low p q).1 * q = p * (low p q).2 := by
  have g0 := gi_pos (p := p) h
  have gn : gi p q ≠ 0 := by omega
  obtain ⟨a, ha⟩ := gi_dl p q
  obtain ⟨b, hb⟩ := gi_dr p q
  generalize hg : gi p q = g at *
  unfold low
  rw [hg]
  split
  · show -p / g * q = p * (-q / g)
    have e1 : -p / g = -a := by rw [ha, ← Int.mul_neg, Int.mul_ediv_cancel_left _ gn]
    have e2 : -q / g = -b := by rw [hb, ← Int.mul_neg, Int.mul_ediv_cancel_left _ gn]
    rw [e1, e2, ha, hb]
    grind
  · show p / g * q = p * (q / g)
    have e1 : p / g = a := by rw [ha, Int.mul_ediv_cancel_left _ gn]
    have e2 : q / g = b := by rw [hb, Int.mul_ediv_cancel_left _ gn]
    rw [e1, e2, ha, hb]
    grind
/-- z is N over D -/
def Rp (D : Int) (z : Int × Int) (N : Int) : Prop := z.1 * D = N * z.2 ∧ 0 < z.2
theorem low_rp {p q D N : Int} (h : q ≠ 0) (e : p * D = N * q) : Rp D (low p q) N := by
  have c := low_cross (p := p) h
  have l := low_pos (p := p) h
  generalize low p q = z at c l
  refine ⟨Int.eq_of_mul_eq_mul_right h ?_, l⟩
  have e1 : z.1 * D * q = z.1 * q * D := by grind
  have e2 : N * z.2 * q = N * q * z.2 := by grind
  rw [e1, e2, c, ← e]
  grind
theorem fp_rp {D M N : Int} {x y : Int × Int} (hx : Rp D x M) (hy : Rp D y N) : Rp D (fp x y) (M + N) := by
  obtain ⟨x1, x2⟩ := hx
  obtain ⟨y1, y2⟩ := hy
  refine low_rp (Int.mul_ne_zero (by omega) (by omega)) ?_
  have e : (x.1 * y.2 + y.1 * x.2) * D = x.1 * D * y.2 + y.1 * D * x.2 := by grind
  rw [e, x1, y1]
  grind
def isum (xs : List Int) : Int := xs.foldr (· + ·) 0
theorem isum_cons {x : Int} {xs : List Int} : isum (x :: xs) = x + isum xs := rfl
theorem asum_rp {α : Type} {D : Int} {f : α → Int × Int} {n : α → Int} : ∀ {as : List α} {x : Int × Int} {M : Int}, (∀ a ∈ as, Rp D (f a) (n a)) → Rp D x M → Rp D (asum x (as.map f)) (M + isum (as.map n))
  | [], x, M, _, h => by
    have e : M + isum (([] : List α).map n) = M := Int.add_zero M
    rw [e]
    exact h
  | a :: as, x, M, k, h => by
    have z := asum_rp (as := as) (fun b hb => k b (List.mem_cons_of_mem _ hb)) (fp_rp h (k a List.mem_cons_self))
    rw [List.map_cons, List.map_cons, isum_cons, ← Int.add_assoc]
    exact z
theorem asum_red : ∀ {zs : List (Int × Int)} {x : Int × Int}, (∀ z ∈ zs, 0 < z.2) → gi x.1 x.2 = 1 ∧ 0 < x.2 → gi (asum x zs).1 (asum x zs).2 = 1 ∧ 0 < (asum x zs).2
  | [], x, _, h => h
  | z :: zs, x, k, h => by
    have n0 : x.2 * z.2 ≠ 0 := Int.mul_ne_zero (by omega) (by have := k z List.mem_cons_self; omega)
    exact asum_red (zs := zs) (x := fp x z) (fun y hy => k y (List.mem_cons_of_mem _ hy)) ⟨gi_low n0, low_pos n0⟩
/-- the weight times 12 -/
def W (w : Int × Int) : Int := w.1 * (12 / w.2)
theorem W_ok {w : Int × Int} (h : Wt w) : Rp 12 w (W w) ∧ (W w).natAbs ≤ 144 ∧ (0 ≤ w.1 → 0 ≤ W w) ∧ (w.1 ≤ 0 → W w ≤ 0) := by
  obtain ⟨a, b⟩ := w
  obtain ⟨h1, h2, h3⟩ := h
  have h1 : a.natAbs ≤ 12 := h1
  have h2 : 1 ≤ b := h2
  have h3 : b ≤ 4 := h3
  have hb : b = 1 ∨ b = 2 ∨ b = 3 ∨ b = 4 := by omega
  unfold W Rp
  rcases hb with e | e | e | e <;> subst e <;> refine ⟨⟨?_, ?_⟩, ?_, ?_, ?_⟩ <;> dsimp only <;> omega
def S (ns : List Int) (ws : List (Int × Int)) : Int := isum ((ns.zip ws).map fun p => p.1 * W p.2)
theorem S_cons {n : Int} {ns : List Int} {w : Int × Int} {ws : List (Int × Int)} : S (n :: ns) (w :: ws) = n * W w + S ns ws := rfl
theorem wl_zip : ∀ {ns : List Int} {ws : List (Int × Int)}, wl ns ws = (ns.zip ws).map fun p => low (p.1 * p.2.1) p.2.2
  | [], _ => rfl
  | _ :: _, [] => rfl
  | n :: ns, w :: ws => by
    show low (n * w.1) w.2 :: wl ns ws = _
    rw [wl_zip (ns := ns)]
    rfl
theorem wsum_rp {ns : List Int} {ws : List (Int × Int)} (hw : ∀ w ∈ ws, Wt w) : Rp 12 (wsum ns ws) (S ns ws) := by
  unfold wsum S
  rw [wl_zip]
  have z := asum_rp (D := 12) (f := fun p : Int × Int × Int => low (p.1 * p.2.1) p.2.2) (n := fun p => p.1 * W p.2) (as := ns.zip ws) (x := (0, 1)) (M := 0) (fun p hp => by
    have hm := hw p.2 (List.of_mem_zip (show (p.1, p.2) ∈ ns.zip ws from hp)).2
    obtain ⟨⟨q1, q2⟩, _⟩ := W_ok hm
    refine low_rp (by omega) ?_
    have e : p.1 * p.2.1 * 12 = p.1 * (p.2.1 * 12) := by grind
    rw [e, q1]
    grind) ⟨rfl, by decide⟩
  rw [Int.zero_add] at z
  exact z
theorem wsum_red {ns : List Int} {ws : List (Int × Int)} (hn : ∀ n ∈ ns, n.natAbs ≤ 100) (hw : ∀ w ∈ ws, Wt w) : gi (wsum ns ws).1 (wsum ns ws).2 = 1 ∧ 0 < (wsum ns ws).2 :=
  asum_red (fun z hz => (wl_gd hn hw z hz).2.2) ⟨by decide, by decide⟩
theorem S_le : ∀ {ns : List Int} {ws : List (Int × Int)}, (∀ n ∈ ns, n.natAbs ≤ 100) → (∀ w ∈ ws, Wt w) → (S ns ws).natAbs ≤ 14400 * ns.length
  | [], ws, _, _ => by simp [S, isum]
  | n :: ns, [], _, _ => by simp [S, isum]
  | n :: ns, w :: ws, hn, hw => by
    have ih := S_le (ns := ns) (ws := ws) (fun m hm => hn m (List.mem_cons_of_mem _ hm)) (fun m hm => hw m (List.mem_cons_of_mem _ hm))
    have h1 := hn n List.mem_cons_self
    have h2 := (W_ok (hw w List.mem_cons_self)).2.1
    have h3 : (n * W w).natAbs ≤ 14400 := by
      rw [Int.natAbs_mul]
      exact Nat.mul_le_mul h1 h2
    rw [S_cons, List.length_cons]
    omega
theorem rp_small {z : Int × Int} {N : Int} (h : Rp 12 z N) (r : gi z.1 z.2 = 1) : z.1.natAbs ≤ N.natAbs ∧ z.2 ≤ 12 := by
  obtain ⟨h1, h2⟩ := h
  have co : Nat.Coprime z.2.natAbs z.1.natAbs := by
    have r2 : ((Nat.gcd z.1.natAbs z.2.natAbs : Nat) : Int) = 1 := r
    rw [Nat.coprime_comm]
    exact Int.ofNat.inj r2
  have dv : z.2.natAbs ∣ z.1.natAbs * 12 := by
    refine ⟨N.natAbs, ?_⟩
    have e : (z.1 * 12).natAbs = (N * z.2).natAbs := by rw [h1]
    rw [Int.natAbs_mul, Int.natAbs_mul] at e
    rw [Nat.mul_comm z.2.natAbs]
    exact e
  have d2 : z.2.natAbs ∣ 12 := co.dvd_of_dvd_mul_left dv
  have l2 : z.2.natAbs ≤ 12 := Nat.le_of_dvd (by decide) d2
  have e : z.1.natAbs * 12 = N.natAbs * z.2.natAbs := by
    have e : (z.1 * 12).natAbs = (N * z.2).natAbs := by rw [h1]
    rw [Int.natAbs_mul, Int.natAbs_mul] at e
    exact e
  refine ⟨?_, by omega⟩
  have l3 : N.natAbs * z.2.natAbs ≤ N.natAbs * 12 := Nat.mul_le_mul_left _ l2
  omega
end M
end

/-! text Q4 -/
section
set_option maxRecDepth 100000
set_option maxHeartbeats 4000000
namespace M
open PySem DL
/-! rows; the bound from below -/
structure Row where
  l : List Int
  r : Str
  b : Int
def col (rs : List Row) (j : Nat) : List Int := rs.map fun r => r.l.getD j 0
def bnds (rs : List Row) : List Int := rs.map fun r => r.b
theorem isum_add {α : Type} {f g : α → Int} : ∀ {xs : List α}, isum (xs.map fun x => f x + g x) = isum (xs.map f) + isum (xs.map g)
  | [] => rfl
  | x :: xs => by
    rw [List.map_cons, List.map_cons, List.map_cons, isum_cons, isum_cons, isum_cons, isum_add (xs := xs)]
    omega
theorem isum_mul {α : Type} {c : Int} {f : α → Int} : ∀ {xs : List α}, isum (xs.map fun x => c * f x) = c * isum (xs.map f)
  | [] => (Int.mul_zero c).symm
  | x :: xs => by
    rw [List.map_cons, List.map_cons, isum_cons, isum_cons, isum_mul (xs := xs), Int.mul_add]
theorem isum_zero {α : Type} {f : α → Int} : ∀ {xs : List α}, (∀ x ∈ xs, f x = 0) → isum (xs.map f) = 0
  | [], _ => rfl
  | x :: xs, h => by
    rw [List.map_cons, isum_cons, h x List.mem_cons_self, isum_zero (xs := xs) fun y hy => h y (List.mem_cons_of_mem _ hy)]
    rfl
/-- the left side of a row -/
def Q (vs : List (Int × Int)) (r : Row) : Int := isum ((List.range vs.length).map fun j => r.l.getD j 0 * W (vs.getD j (0, 1)))
/-- what is paid -/
def Pd (vs : List (Int × Int)) (rs : List Row) (ws : List (Int × Int)) : Int := isum ((List.range vs.length).map fun j => S (col rs j) ws * W (vs.getD j (0, 1)))
theorem Pd_cons {vs ws : List (Int × Int)} {rs : List Row} {r : Row} {w : Int × Int} : Pd vs (r :: rs) (w :: ws) = W w * Q vs r + Pd vs rs ws := by
  unfold Pd Q
  rw [← isum_mul, ← isum_add]
  congr 1
  refine List.map_congr_left fun j _ => ?_
  show S (r.l.getD j 0 :: col rs j) (w :: ws) * _ = _
  rw [S_cons]
  grind
theorem dual {vs : List (Int × Int)} : ∀ {rs : List Row} {ws : List (Int × Int)}, (∀ p ∈ rs.zip ws, W p.2 * (12 * p.1.b) ≤ W p.2 * Q vs p.1) → rs.length = ws.length → 12 * S (bnds rs) ws ≤ Pd vs rs ws
  | [], ws, _, _ => by
    have e : Pd vs [] ws = 0 := isum_zero fun j _ => by
      show S [] ws * _ = 0
      have : S [] ws = 0 := rfl
      rw [this, Int.zero_mul]
    rw [e]
    have : S (bnds []) ws = 0 := rfl
    rw [this]
    decide
  | r :: rs, [], _, e => by cases e
  | r :: rs, w :: ws, h, e => by
    have ih := dual (vs := vs) (rs := rs) (ws := ws) (fun p hp => h p (List.mem_cons_of_mem _ hp)) (by simpa using e)
    have h0 := h (r, w) List.mem_cons_self
    rw [Pd_cons]
    show 12 * S (r.b :: bnds rs) (w :: ws) ≤ _
    rw [S_cons]
    have h0 : W w * (12 * r.b) ≤ W w * Q vs r := h0
    have e1 : W w * (12 * r.b) = 12 * (r.b * W w) := by grind
    omega
theorem Q_S {vs : List (Int × Int)} {r : Row} (h : r.l.length = vs.length) : Q vs r = S r.l vs := by
  unfold Q S
  congr 1
  refine List.ext_getElem (by simp [h]) fun i h1 h2 => ?_
  have hi : i < vs.length := by simpa using h1
  simp only [List.getElem_map, List.getElem_range, List.getElem_zip]
  rw [getD_lt hi, getD_lt (by omega : i < r.l.length)]
/-- what it is that a row is fulfilled -/
def fitsB (r : Row) (vs : List (Int × Int)) : Bool :=
  if r.r = Str.ofString "least" then !decide ((wsum r.l vs).1 * 1 < r.b * (wsum r.l vs).2)
  else if r.r = Str.ofString "most" then !decide (r.b * (wsum r.l vs).2 < (wsum r.l vs).1 * 1)
  else decide (wsum r.l vs = (r.b, 1))
/-- what it is that a weight fits a row -/
def fit1 (r : Row) (w : Int × Int) : Bool := !((decide (r.r = Str.ofString "least") && decide (w.1 < 0)) || (decide (r.r = Str.ofString "most") && decide (0 < w.1)))
theorem fits_le {r : Row} {w : Int × Int} {vs : List (Int × Int)} (hl : r.l.length = vs.length) (hv : ∀ v ∈ vs, Wt v) (hw : Wt w) (h1 : fitsB r vs = true) (h2 : fit1 r w = true) : W w * (12 * r.b) ≤ W w * Q vs r := by
  rw [Q_S hl]
  obtain ⟨q1, q2⟩ := wsum_rp (ns := r.l) hv
  obtain ⟨_, _, w1, w2⟩ := W_ok hw
  unfold fitsB at h1
  generalize wsum r.l vs = z at q1 q2 h1
  generalize S r.l vs = N at q1 q2 h1 ⊢
  unfold fit1 at h2
  have key1 : 12 * r.b ≤ N ∨ ¬ r.b * z.2 ≤ z.1 := by
    by_cases k : r.b * z.2 ≤ z.1
    · left
      refine Int.le_of_mul_le_mul_right ?_ q2
      have e : 12 * r.b * z.2 = r.b * z.2 * 12 := by grind
      rw [← q1, e]
      omega
    · exact .inr k
  have key2 : N ≤ 12 * r.b ∨ ¬ z.1 ≤ r.b * z.2 := by
    by_cases k : z.1 ≤ r.b * z.2
    · left
      refine Int.le_of_mul_le_mul_right ?_ q2
      have e : 12 * r.b * z.2 = r.b * z.2 * 12 := by grind
      rw [← q1, e]
      omega
    · exact .inr k
  by_cases c1 : r.r = Str.ofString "least"
  · rw [if_pos c1] at h1
    simp [c1] at h1 h2
    have a1 : 12 * r.b ≤ N := key1.resolve_right (by omega)
    exact Int.mul_le_mul_of_nonneg_left a1 (w1 (h2.1))
  · rw [if_neg c1] at h1
    by_cases c2 : r.r = Str.ofString "most"
    · rw [if_pos c2] at h1
      simp [c2] at h1 h2
      have a1 : N ≤ 12 * r.b := key2.resolve_right (by omega)
      exact Int.mul_le_mul_of_nonpos_left (w2 (by omega)) a1
    · rw [if_neg c2] at h1
      have e : z = (r.b, 1) := of_decide_eq_true h1
      have a1 : N ≤ 12 * r.b := key2.resolve_right (by rw [e]; simp)
      have a2 : 12 * r.b ≤ N := key1.resolve_right (by rw [e]; simp)
      have : 12 * r.b = N := by omega
      rw [this]
      exact Int.le_refl _
end M
end

/-! text Q5 -/
section
set_option maxRecDepth 100000
set_option maxHeartbeats 4000000
namespace M
open PySem DL
/-! the object -/
abbrev rowD (r : Row) : DV := .tup [di r.l, .str r.r, .int r.b]
abbrev rsD (rs : List Row) : DV := .lst (rs.map rowD)
abbrev prg (ps : List Int) (rs : List Row) : DV := .obj "Program" ["_prices", "_rows"] [di ps, rsD rs]
theorem lenG {α : Type} {g : α → DV} {xs : List α} (h : xs.length ≤ 1000) : (xs.map g).length ≤ sizeLine := by rw [List.length_map, sz_eq]; omega
theorem fld_rows {ps : List Int} {rs : List Row} {ρ : EnvD} {i : Nat} (e : lk ρ i = .ok (prg ps rs)) : gFld "Program" "_rows" (gVar i) ρ = .ok (rsD rs) := by
  unfold gFld
  rw [ev_var, e]
  rfl
theorem fld_prices {ps : List Int} {rs : List Row} {ρ : EnvD} {i : Nat} (e : lk ρ i = .ok (prg ps rs)) : gFld "Program" "_prices" (gVar i) ρ = .ok (di ps) := by
  unfold gFld
  rw [ev_var, e]
  rfl
theorem rows_ok {ps : List Int} {rs : List Row} (h : rs.length ≤ 1000) : m_Program_rows [prg ps rs] = .ok (rsD rs) := by
  have key : gLc (gSeqI (gFld "Program" "_rows" (gVar 0))) (gtTup [1, 2, 3]) gYes (eTup (aCons (gCB dList (aCons (gVar 1) aNil)) (aCons (gVar 2) (aCons (gVar 3) aNil)))) [1, 2, 3] [some (prg ps rs), none, none, none] = .ok (rsD rs) := by
    unfold gLc gSeqI
    rw [fld_rows rfl]
    show (if (rs.map rowD).length ≤ sizeLine then _ else _) = _
    rw [if_pos (lenG h), lcLoop_gen (g := rowD) (f := rowD) fun r _ => rfl]
  have st : startD 4 [prg ps rs] = [some (prg ps rs), none, none, none] := rfl
  unfold m_Program_rows runB b_Program_rows
  rw [st, ev_ret (d := rsD rs) (ρ' := [some (prg ps rs), none, none, none]) (by rw [ev_pure, key])]
  rfl
theorem meth_rows {ps : List Int} {rs : List Row} {ρ : EnvD} {i : Nat} (h : rs.length ≤ 1000) (e : lk ρ i = .ok (prg ps rs)) : gMeth "Program" "rows" m_Program_rows (gVar i) aNil ρ = .ok (rsD rs) := by
  unfold gMeth
  rw [ev_var, e]
  show (if ("Program" : Str) = "Program" ∧ ("rows" : Str) ∉ (["_prices", "_rows"] : List Str) then _ else _) = _
  rw [if_pos (by decide)]
  exact rows_ok h
theorem meth_count {ps : List Int} {rs : List Row} {ρ : EnvD} {i : Nat} (e : lk ρ i = .ok (prg ps rs)) : gMeth "Program" "count" m_Program_count (gVar i) aNil ρ = .ok (.int ps.length) := by
  unfold gMeth
  rw [ev_var, e]
  show (if ("Program" : Str) = "Program" ∧ ("count" : Str) ∉ (["_prices", "_rows"] : List Str) then _ else _) = _
  rw [if_pos (by decide)]
  have st : startD 1 [prg ps rs] = [some (prg ps rs)] := rfl
  show runB b_Program_count 1 [prg ps rs] = _
  unfold runB b_Program_count
  have q : gPure (gCB dLen (aCons (gFld "Program" "_prices" (gVar 0)) aNil)) [some (prg ps rs)] = .ok (.int ps.length, [some (prg ps rs)]) := by
    rw [ev_pure, ev_cb, ev_cons, fld_prices rfl]
    simp only [Rs.bind, ev_nil, dLen_i]
  rw [st, ev_ret q]
  rfl
/-! loops, kept apart from the places: the kernel must not run rngOk at a length that is not written -/
theorem ev_for {gi : GI} {tg : GG} {b : GS} {ρ ρ' : EnvD} {its : List DV} (h1 : gi ρ = .ok its) (h2 : forG tg b its ρ = .nx ρ') : gFor gi tg b ρ = .nx ρ' := by
  unfold gFor
  rw [h1]
  exact h2
theorem ev_forR {gi : GI} {tg : GG} {b : GS} {ρ ρ' : EnvD} {its : List DV} {d : DV} (h1 : gi ρ = .ok its) (h2 : forG tg b its ρ = .rt d ρ') : gFor gi tg b ρ = .rt d ρ' := by
  unfold gFor
  rw [h1]
  exact h2
theorem ev_lc {gi : GI} {tg : GG} {gt : GT} {ge : GE} {vs : List Nat} {ρ : EnvD} {its r : List DV} (h1 : gi ρ = .ok its) (h2 : its.length ≤ sizeLine) (h3 : lcLoop (lcTurn tg gt ge (wipeD ρ vs)) its = .ok r) : gLc gi tg gt ge vs ρ = .ok (.lst r) := by
  unfold gLc
  rw [h1]
  show (if its.length ≤ sizeLine then _ else _) = _
  rw [if_pos h2, h3]
theorem rng_i {i : Int} {n : Nat} (e : i = (n : Int)) (h : n ≤ 1000) : dRng1 [.int i] = .ok (rngD 0 n) := by
  subst e
  have ro : rngOk (n : Int) = true := by unfold rngOk; simp; omega
  unfold dRng1
  dsimp only
  rw [if_pos ro]
  rfl
theorem rng1_e {g : GE} {ρ : EnvD} {i : Int} {n : Nat} (e : g ρ = .ok (.int i)) (e2 : i = (n : Int)) (h : n ≤ 1000) : gRng1 (aCons g aNil) ρ = .ok (rngD 0 n) := by
  unfold gRng1
  rw [ev_cons, e]
  exact rng_i e2 h
theorem rngD_len {n : Nat} (h : n ≤ 1000) : (rngD 0 n).length ≤ sizeLine := by unfold rngD; rw [List.length_map, List.length_range, sz_eq]; omega
theorem len_e {α : Type} {g : α → DV} {xs : List α} {ρ : EnvD} {i : Nat} (e : lk ρ i = .ok (.lst (xs.map g))) : gCB dLen (aCons (gVar i) aNil) ρ = .ok (.int xs.length) := by
  rw [ev_cb, ev_cons, ev_var, e]
  exact dLen_g
/-- good rows of so many variables -/
def Gr (n : Nat) (r : Row) : Prop := r.l.length = n ∧ (∀ x ∈ r.l, x.natAbs ≤ 100) ∧ r.b.natAbs ≤ 100 ∧ (r.r = Str.ofString "least" ∨ r.r = Str.ofString "most" ∨ r.r = Str.ofString "equal")
theorem rel_in {r : Str} (h : r = Str.ofString "least" ∨ r = Str.ofString "most" ∨ r = Str.ofString "equal") : dNotIn (.str r) (.tup [(.str (Str.ofString "least")), (.str (Str.ofString "most")), (.str (Str.ofString "equal"))]) = .ok (.bl false) := by
  rcases h with h | h | h <;> subst h <;> rfl
def iBody : GS := (gSeq (gIfS (gB (gBin dNe (gCB dLen (aCons (gBin dIx (gBin dIx (gVar 2) (gVar 3)) (gC (.int 0))) aNil)) (gCB dLen (aCons (gVar 1) aNil)))) gNever gNext) (gIfS (gB (gBin dNotIn (gBin dIx (gBin dIx (gVar 2) (gVar 3)) (gC (.int 1))) (gC (.tup [(.str (Str.ofString "least")), (.str (Str.ofString "most")), (.str (Str.ofString "equal"))])))) gNever gNext))
theorem ev_skip {t : GT} {f k : GS} {ρ : EnvD} (h : t ρ = .ok false) : gSeq (gIfS t f gNext) k ρ = k ρ := ev_seq (by rw [ev_ifS h]; rfl)
theorem ix3_0 {a b c : DV} : dIx (.tup [a, b, c]) (.int 0) = .ok a := rfl
theorem ix3_1 {a b c : DV} : dIx (.tup [a, b, c]) (.int 1) = .ok b := rfl
theorem ix3_2 {a b c : DV} : dIx (.tup [a, b, c]) (.int 2) = .ok c := rfl
def II (O : Option DV) (ps : List Int) (rs : List Row) (_ : Nat) (ρ : EnvD) : Prop := ∃ t, ρ = [O, some (di ps), some (rsD rs), t, none, none, none]
theorem i_turn {O : Option DV} {ps : List Int} {rs : List Row} (hg : ∀ r ∈ rs, Gr ps.length r) {i : Nat} {ρ : EnvD} (hi : i < rs.length) (h : II O ps rs i ρ) : ∃ ρ1 ρ2, gtName 3 (.int ((0 : Int) + (i : Int))) ρ = .ok ρ1 ∧ iBody ρ1 = .nx ρ2 ∧ II O ps rs (i + 1) ρ2 := by
  obtain ⟨t, rfl⟩ := h
  refine ⟨[O, some (di ps), some (rsD rs), some (.int ((0 : Int) + (i : Int))), none, none, none], [O, some (di ps), some (rsD rs), some (.int ((0 : Int) + (i : Int))), none, none, none], rfl, ?_, _, rfl⟩
  have g := dIx_g (g := rowD) (xs := rs) (z := 0 + (i : Int)) i (by omega) hi
  obtain ⟨h1, _, _, h4⟩ := hg _ (List.getElem_mem hi)
  generalize rs[i] = r at g h1 h4
  have t1 : gB (gBin dNe (gCB dLen (aCons (gBin dIx (gBin dIx (gVar 2) (gVar 3)) (gC (.int 0))) aNil)) (gCB dLen (aCons (gVar 1) aNil))) [O, some (di ps), some (rsD rs), some (.int ((0 : Int) + (i : Int))), none, none, none] = .ok false := by
    simp only [ev_pure, ev_bin, ev_cb, ev_un, ev_cons, ev_nil, ev_var, ev_b, ev_asB, lk_s, lk_0, ev_c, Rs.bind, g, ix3_0, dLen_i, dNe_i, h1, decide_true, Bool.not_true]
  have t2 : gB (gBin dNotIn (gBin dIx (gBin dIx (gVar 2) (gVar 3)) (gC (.int 1))) (gC (.tup [(.str (Str.ofString "least")), (.str (Str.ofString "most")), (.str (Str.ofString "equal"))]))) [O, some (di ps), some (rsD rs), some (.int ((0 : Int) + (i : Int))), none, none, none] = .ok false := by
    simp only [ev_pure, ev_bin, ev_cb, ev_un, ev_cons, ev_nil, ev_var, ev_b, ev_asB, lk_s, lk_0, ev_c, Rs.bind, g, ix3_1, rel_in h4]
  unfold iBody
  rw [ev_skip t1, ev_ifS t2]
  rfl
theorem init_ok {ps : List Int} {rs : List Row} (h1 : 1 ≤ ps.length) (h2 : ps.length ≤ 40) (h3 : rs.length ≤ 80) (hg : ∀ r ∈ rs, Gr ps.length r) : m_Program___init__ [di ps, rsD rs] = .ok (prg ps rs) := by
  have st : startN "Program" 6 [di ps, rsD rs] = [some (.obj "Program" [] []), some (di ps), some (rsD rs), none, none, none, none] := rfl
  have t1 : (gNot (gB (gChain dLe dLe (gC (.int 1)) (gCB dLen (aCons (gVar 1) aNil)) (gC (.int 40))))) [some (.obj "Program" [] []), some (di ps), some (rsD rs), none, none, none, none] = .ok false := by
    have a1 : decide ((1 : Int) ≤ (ps.length : Int)) = true := decide_eq_true (by omega)
    have a2 : decide ((ps.length : Int) ≤ 40) = true := decide_eq_true (by omega)
    simp only [gNot, gChain, ev_pure, ev_bin, ev_cb, ev_un, ev_cons, ev_nil, ev_var, ev_b, ev_asB, lk_s, lk_0, ev_c, Rs.bind, dLen_i, dLe_i, a1, a2, if_true, Bool.not_true]
  have t2 : (gB (gBin dGt (gCB dLen (aCons (gVar 2) aNil)) (gC (.int 80)))) [some (.obj "Program" [] []), some (di ps), some (rsD rs), none, none, none, none] = .ok false := by
    have a1 : decide ((80 : Int) < (rs.length : Int)) = false := decide_eq_false (by omega)
    simp only [ev_pure, ev_bin, ev_cb, ev_un, ev_cons, ev_nil, ev_var, ev_b, ev_asB, lk_s, lk_0, ev_c, Rs.bind, dLen_g, dGt_i, a1]
  obtain ⟨ρ', f1, t, e1⟩ := forG_rngB (tg := gtName 3) (b := iBody) rs.length (II (some (.obj "Program" [] [])) ps rs) (fun i ρ hi h => i_turn hg hi h) rs.length 0 [some (.obj "Program" [] []), some (di ps), some (rsD rs), none, none, none, none] (by omega) ⟨none, rfl⟩
  have s3 : gFor (gRng1 (aCons (gCB dLen (aCons (gVar 2) aNil)) aNil)) (gtName 3) iBody [some (.obj "Program" [] []), some (di ps), some (rsD rs), none, none, none, none] = .nx ρ' := by
    exact ev_for (rng1_e (len_e (g := rowD) (xs := rs) rfl) rfl (by omega)) (by rw [rngD_eq]; exact f1)
  have s4 : gSetF 0 "Program" "_prices" (gPure (gCB dList (aCons (gVar 1) aNil))) [some (.obj "Program" [] []), some (di ps), some (rsD rs), t, none, none, none] = .nx [some (.obj "Program" ["_prices"] [di ps]), some (di ps), some (rsD rs), t, none, none, none] := rfl
  have key : gLc (gSeqI (gVar 2)) (gtTup [4, 5, 6]) gYes (eTup (aCons (gCB dList (aCons (gVar 4) aNil)) (aCons (gVar 5) (aCons (gVar 6) aNil)))) [4, 5, 6] [some (.obj "Program" ["_prices"] [di ps]), some (di ps), some (rsD rs), t, none, none, none] = .ok (rsD rs) := by
    exact ev_lc (its := rs.map rowD) rfl (lenG (by omega)) (lcLoop_gen (g := rowD) (f := rowD) fun r _ => rfl)
  have s5 : gSetF 0 "Program" "_rows" (gPure (gLc (gSeqI (gVar 2)) (gtTup [4, 5, 6]) gYes (eTup (aCons (gCB dList (aCons (gVar 4) aNil)) (aCons (gVar 5) (aCons (gVar 6) aNil)))) [4, 5, 6])) [some (.obj "Program" ["_prices"] [di ps]), some (di ps), some (rsD rs), t, none, none, none] = .nx [some (prg ps rs), some (di ps), some (rsD rs), t, none, none, none] := by
    unfold gSetF
    rw [ev_pure, key]
    rfl
  unfold m_Program___init__ DL.runN b_Program___init__
  rw [st, ev_skip t1, ev_skip t2]
  show finN (gSeq (gFor _ _ iBody) _ _) = _
  rw [ev_seq s3, e1, ev_seq s4, s5]
  rfl
end M
end

/-! text Q6 -/
section
set_option maxRecDepth 100000
set_option maxHeartbeats 4000000
namespace M
open PySem DL
section
variable {ρ : EnvD} {a b c g : GE} {o : OpA} {x y z d : DV} {i : Nat}
theorem cb1 (h : a ρ = .ok x) : gCB o (aCons a aNil) ρ = o [x] := by
  rw [ev_cb, ev_cons, h]
  rfl
theorem cb2 (h : a ρ = .ok x) (h2 : b ρ = .ok y) : gCB o (aCons a (aCons b aNil)) ρ = o [x, y] := by
  rw [ev_cb, ev_cons, h, ev_cons, h2]
  rfl
theorem cb3 (h : a ρ = .ok x) (h2 : b ρ = .ok y) (h3 : c ρ = .ok z) : gCB o (aCons a (aCons b (aCons c aNil))) ρ = o [x, y, z] := by
  rw [ev_cb, ev_cons, h, ev_cons, h2, ev_cons, h3]
  rfl
theorem ret_e (h : g ρ = .ok d) : gRet (gPure g) ρ = .rt d ρ := ev_ret (by rw [ev_pure, h])
theorem set_e (h : g ρ = .ok d) : gAsg (gPure g) (gtName i) ρ = .nx (ρ.set i (some d)) := ev_asg (by rw [ev_pure, h])
theorem nx_e (h : g ρ = .ok d) : gNX g ρ = .ok d := by
  unfold gNX
  rw [h]
theorem drop_e (h : g ρ = .ok d) : gDrop (gPure g) ρ = .nx ρ := by
  unfold gDrop
  rw [ev_pure, h]
theorem drop_x {cn : Str} (h : g ρ = .ex cn d) : gDrop (gPure g) ρ = .ex cn d := by
  unfold gDrop
  rw [ev_pure, h]
theorem lenD_e {α : Type} {f : α → DV} {xs : List α} (e : a ρ = .ok (.lst (xs.map f))) : gCB dLen (aCons a aNil) ρ = .ok (.int xs.length) := by
  rw [cb1 e]
  exact dLen_g
theorem ne_e {u v : Int} (h : a ρ = .ok (.int u)) (h2 : b ρ = .ok (.int v)) : gB (gBin dNe a b) ρ = .ok (!decide (u = v)) := by
  rw [ev_b, ev_bin, h]
  dsimp only [Rs.bind]
  rw [h2]
  dsimp only [Rs.bind]
  rw [dNe_i]
  rfl
end
section
variable {ps : List Int} {rs : List Row} {ws : List (Int × Int)}
theorem check_ok (hr : rs.length ≤ 1000) (e : ws.length = rs.length) : m_check_multipliers [prg ps rs, dp ws] = .ok .non := by
  have st : startD 2 [prg ps rs, dp ws] = [some (prg ps rs), some (dp ws)] := rfl
  unfold m_check_multipliers runB b_check_multipliers
  rw [st, ev_ifS (ne_e (u := ws.length) (v := rs.length) (lenD_e (f := pr) (xs := ws) rfl) (lenD_e (f := rowD) (xs := rs) (nx_e (meth_rows hr rfl))))]
  have d : decide ((ws.length : Int) = (rs.length : Int)) = true := decide_eq_true (by omega)
  rw [d]
  rfl
theorem check_ex (hr : rs.length ≤ 1000) (e : ws.length ≠ rs.length) : m_check_multipliers [prg ps rs, dp ws] = .ex "WrongSize" (.int 0) := by
  have st : startD 2 [prg ps rs, dp ws] = [some (prg ps rs), some (dp ws)] := rfl
  unfold m_check_multipliers runB b_check_multipliers
  rw [st, ev_ifS (ne_e (u := ws.length) (v := rs.length) (lenD_e (f := pr) (xs := ws) rfl) (lenD_e (f := rowD) (xs := rs) (nx_e (meth_rows hr rfl))))]
  have d : decide ((ws.length : Int) = (rs.length : Int)) = false := decide_eq_false (by omega)
  rw [d]
  rfl
theorem loads_ex (hr : rs.length ≤ 1000) (e : ws.length ≠ rs.length) : m_loads [prg ps rs, dp ws] = .ex "WrongSize" (.int 0) := by
  have st : startD 6 [prg ps rs, dp ws] = [some (prg ps rs), some (dp ws), none, none, none, none] := rfl
  unfold m_loads runB b_loads
  rw [st, ev_seqE (drop_x ((cb2 rfl rfl).trans (check_ex hr e)))]
  rfl
theorem gain_ex (hr : rs.length ≤ 1000) (e : ws.length ≠ rs.length) : m_gain [prg ps rs, dp ws] = .ex "WrongSize" (.int 0) := by
  have st : startD 4 [prg ps rs, dp ws] = [some (prg ps rs), some (dp ws), none, none] := rfl
  unfold m_gain runB b_gain
  rw [st, ev_seqE (drop_x ((cb2 rfl rfl).trans (check_ex hr e)))]
  rfl
theorem col_le {j : Nat} {n : Nat} (hg : ∀ r ∈ rs, Gr n r) : ∀ x ∈ col rs j, x.natAbs ≤ 100 := by
  intro x hx
  obtain ⟨r, hr, rfl⟩ := List.mem_map.mp hx
  by_cases h : j < r.l.length
  · rw [getD_lt h]
    exact (hg r hr).2.1 _ (List.getElem_mem h)
  · rw [List.getD_eq_getElem?_getD, List.getElem?_eq_none_iff.mpr (by omega)]
    decide
theorem bnds_le {n : Nat} (hg : ∀ r ∈ rs, Gr n r) : ∀ x ∈ bnds rs, x.natAbs ≤ 100 := by
  intro x hx
  obtain ⟨r, hr, rfl⟩ := List.mem_map.mp hx
  exact (hg r hr).2.2.1
theorem col_w (hg : ∀ r ∈ rs, Gr ps.length r) (hw : ∀ w ∈ ws, Wt w) (hl : rs.length ≤ 6) (e : ws.length = rs.length) (j : Nat) : m_weighted [di (col rs j), dp ws] = .ok (pr (wsum (col rs j) ws)) ∧ m__law_weighted [di (col rs j), dp ws] = .ok (pr (wsum (col rs j) ws)) :=
  weighted_ok (col_le hg) hw (by unfold col; rw [List.length_map]; omega) (by unfold col; rw [List.length_map]; omega)
theorem bnds_w (hg : ∀ r ∈ rs, Gr ps.length r) (hw : ∀ w ∈ ws, Wt w) (hl : rs.length ≤ 6) (e : ws.length = rs.length) : m_weighted [di (bnds rs), dp ws] = .ok (pr (wsum (bnds rs) ws)) ∧ m__law_weighted [di (bnds rs), dp ws] = .ok (pr (wsum (bnds rs) ws)) :=
  weighted_ok (bnds_le hg) hw (by unfold bnds; rw [List.length_map]; omega) (by unfold bnds; rw [List.length_map]; omega)
def due (n : Nat) (rs : List Row) (ws : List (Int × Int)) : List (Int × Int) := (List.range n).map fun j => wsum (col rs j) ws
theorem seq_e {α : Type} {g : GE} {f : α → DV} {xs : List α} {ρ : EnvD} (e : g ρ = .ok (.lst (xs.map f))) : gSeqI g ρ = .ok (xs.map f) := by
  unfold gSeqI
  rw [e]
  rfl
theorem loads_ok (hg : ∀ r ∈ rs, Gr ps.length r) (hw : ∀ w ∈ ws, Wt w) (hl : rs.length ≤ 6) (hp : ps.length ≤ 40) (e : ws.length = rs.length) : m_loads [prg ps rs, dp ws] = .ok (dp (due ps.length rs ws)) := by
  have st : startD 6 [prg ps rs, dp ws] = [some (prg ps rs), some (dp ws), none, none, none, none] := rfl
  have s2 : gAsg (gPure (gNX (gMeth "Program" "rows" m_Program_rows (gVar 0) aNil))) (gtName 2) [some (prg ps rs), some (dp ws), none, none, none, none] = .nx [some (prg ps rs), some (dp ws), some (rsD rs), none, none, none] := set_e (i := 2) (nx_e (meth_rows (by omega) rfl))
  have inner : ∀ j, j < ps.length → gLc (gSeqI (gVar 2)) (gtTup [3, 4, 4]) gYes (gBin dIx (gVar 3) (gVar 5)) [3, 4, 4] [some (prg ps rs), some (dp ws), some (rsD rs), none, none, some (.int ((0 : Int) + (j : Int)))] = .ok (di (col rs j)) := fun j hj => by
    have c : (col rs j).map DV.int = rs.map fun r => DV.int (r.l.getD j 0) := by unfold col; rw [List.map_map]; rfl
    unfold di
    rw [c]
    refine ev_lc (seq_e (f := rowD) (xs := rs) rfl) (lenG (by omega)) (lcLoop_gen (g := rowD) (f := fun r => DV.int (r.l.getD j 0)) fun r hr => ?_)
    have hj2 : j < r.l.length := by rw [(hg r hr).1]; exact hj
    have g := dIx_g (g := DV.int) (xs := r.l) (z := 0 + (j : Int)) j (by omega) hj2
    show (dIx (di r.l) (.int ((0 : Int) + (j : Int)))).bind _ = _
    rw [g, getD_lt hj2]
  have key : gLc (gRng1 (aCons (gNX (gMeth "Program" "count" m_Program_count (gVar 0) aNil)) aNil)) (gtName 5) gYes (gNX (gCB m_weighted (aCons (gLc (gSeqI (gVar 2)) (gtTup [3, 4, 4]) gYes (gBin dIx (gVar 3) (gVar 5)) [3, 4, 4]) (aCons (gVar 1) aNil)))) [5] [some (prg ps rs), some (dp ws), some (rsD rs), none, none, none] = .ok (dp (due ps.length rs ws)) := by
    unfold dp due
    rw [List.map_map]
    refine ev_lc (rng1_e (nx_e (meth_count rfl)) rfl (by omega)) (rngD_len (by omega)) (lcLoop_rng fun j hj => ?_)
    have t : gNX (gCB m_weighted (aCons (gLc (gSeqI (gVar 2)) (gtTup [3, 4, 4]) gYes (gBin dIx (gVar 3) (gVar 5)) [3, 4, 4]) (aCons (gVar 1) aNil))) [some (prg ps rs), some (dp ws), some (rsD rs), none, none, some (.int ((0 : Int) + (j : Int)))] = .ok (pr (wsum (col rs j) ws)) := nx_e ((cb2 (inner j hj) rfl).trans (col_w hg hw hl e j).1)
    show (gNX _ [some (prg ps rs), some (dp ws), some (rsD rs), none, none, some (.int ((0 : Int) + (j : Int)))]).bind _ = _
    rw [t]
    rfl
  unfold m_loads runB b_loads
  rw [st, ev_seq (drop_e ((cb2 rfl rfl).trans (check_ok (by omega) e))), ev_seq s2, ret_e key]
  rfl
theorem gain_ok (hg : ∀ r ∈ rs, Gr ps.length r) (hw : ∀ w ∈ ws, Wt w) (hl : rs.length ≤ 6) (e : ws.length = rs.length) : m_gain [prg ps rs, dp ws] = .ok (pr (wsum (bnds rs) ws)) := by
  have st : startD 4 [prg ps rs, dp ws] = [some (prg ps rs), some (dp ws), none, none] := rfl
  have inner : gLc (gSeqI (gNX (gMeth "Program" "rows" m_Program_rows (gVar 0) aNil))) (gtTup [2, 2, 3]) gYes (gVar 3) [2, 2, 3] [some (prg ps rs), some (dp ws), none, none] = .ok (di (bnds rs)) := by
    have c : (bnds rs).map DV.int = rs.map fun r => DV.int r.b := by unfold bnds; rw [List.map_map]; rfl
    unfold di
    rw [c]
    exact ev_lc (seq_e (f := rowD) (xs := rs) (nx_e (meth_rows (by omega) rfl))) (lenG (by omega)) (lcLoop_gen (g := rowD) (f := fun r => DV.int r.b) fun r hr => rfl)
  unfold m_gain runB b_gain
  rw [st, ev_seq (drop_e ((cb2 rfl rfl).trans (check_ok (by omega) e))), ret_e ((cb2 inner rfl).trans (bnds_w hg hw hl e).1)]
  rfl
end
end M
end

/-! text Q7 -/
section
set_option maxRecDepth 100000
set_option maxHeartbeats 4000000
namespace M
open PySem DL
theorem wsum_sm {ns : List Int} {ws : List (Int × Int)} (hn : ∀ n ∈ ns, n.natAbs ≤ 100) (hw : ∀ w ∈ ws, Wt w) (hl : ns.length ≤ 6) : (wsum ns ws).1.natAbs ≤ 86400 ∧ (wsum ns ws).2.natAbs ≤ 12 ∧ 0 < (wsum ns ws).2 := by
  have h1 := wsum_rp (ns := ns) hw
  have h2 := wsum_red hn hw
  have h3 := rp_small h1 h2.1
  have h4 := S_le hn hw
  have h5 := h2.2
  refine ⟨by omega, by omega, h5⟩
theorem sm_of {z : Int × Int} (h : z.1.natAbs ≤ 86400) (h2 : z.2.natAbs ≤ 12) : Sm z := ⟨Nat.lt_of_le_of_lt h (Nat.lt_of_lt_of_le (by decide : 86400 < 2 ^ 20) (Nat.pow_le_pow_right (by decide) (by decide))), Nat.lt_of_le_of_lt h2 (Nat.lt_of_lt_of_le (by decide : 12 < 2 ^ 20) (Nat.pow_le_pow_right (by decide) (by decide)))⟩
def in3 (r : Str) : Prop := r = Str.ofString "least" ∨ r = Str.ofString "most" ∨ r = Str.ofString "equal"
theorem eq_least {r : Str} (h : in3 r) : dEq (.str r) (.str (Str.ofString "least")) = .ok (.bl (decide (r = Str.ofString "least"))) := by
  rcases h with h | h | h <;> subst h <;> (unfold dEq; rw [if_pos (by decide +kernel)]; simp [eqv, py, PyData.eqv]; try (first | rfl | decide +kernel))
theorem eq_most {r : Str} (h : in3 r) : dEq (.str r) (.str (Str.ofString "most")) = .ok (.bl (decide (r = Str.ofString "most"))) := by
  rcases h with h | h | h <;> subst h <;> (unfold dEq; rw [if_pos (by decide +kernel)]; simp [eqv, py, PyData.eqv]; try (first | rfl | decide +kernel))
theorem tup2 {a b : GE} {ρ : EnvD} {x y : DV} (h1 : a ρ = .ok x) (h2 : b ρ = .ok y) : eTup (aCons a (aCons b aNil)) ρ = .ok (.tup [x, y]) := by
  rw [ev_tup, ev_cons, h1, ev_cons, h2]
  show (if 0 + 1 + 1 ≤ sizeLine then _ else _) = _
  rw [if_pos (by decide)]
theorem bin_e {o : OpD} {a b : GE} {ρ : EnvD} {x y : DV} (h1 : a ρ = .ok x) (h2 : b ρ = .ok y) : gBin o a b ρ = o x y := by
  rw [ev_bin, h1]
  dsimp only [Rs.bind]
  rw [h2]
theorem b_e {a : GE} {ρ : EnvD} {z : Bool} (h : a ρ = .ok (.bl z)) : gB a ρ = .ok z := by
  rw [ev_b, h]
  rfl
theorem notV_e {a : GE} {ρ : EnvD} {z : Bool} (h : a ρ = .ok (.bl z)) : gNotV a ρ = .ok (.bl (!z)) := by
  rw [ev_notV, h]
  rfl
theorem and_e {s t : GT} {ρ : EnvD} {x y : Bool} (h1 : s ρ = .ok x) (h2 : t ρ = .ok y) : gAnd s t ρ = .ok (x && y) := by
  unfold gAnd
  rw [h1]
  cases x
  · rfl
  · exact h2
theorem or_e {s t : GT} {ρ : EnvD} {x y : Bool} (h1 : s ρ = .ok x) (h2 : t ρ = .ok y) : gOr s t ρ = .ok (x || y) := by
  unfold gOr
  rw [h1]
  cases x
  · exact h2
  · rfl
theorem lc_yes {tg : GG} {gt : GT} {ge : GE} {ρ ρ1 : EnvD} {d x : DV} (h1 : tg d ρ = .ok ρ1) (h2 : gt ρ1 = .ok true) (h3 : ge ρ1 = .ok x) : lcTurn tg gt ge ρ d = .ok (some x) := by
  unfold lcTurn
  rw [h1]
  dsimp only [Rs.bind]
  rw [h2]
  dsimp only
  rw [if_pos rfl, h3]
theorem lc_no {tg : GG} {gt : GT} {ge : GE} {ρ ρ1 : EnvD} {d : DV} (h1 : tg d ρ = .ok ρ1) (h2 : gt ρ1 = .ok false) : lcTurn tg gt ge ρ d = .ok none := by
  unfold lcTurn
  rw [h1]
  dsimp only [Rs.bind]
  rw [h2]
  dsimp only
  rw [if_neg (by decide)]
theorem lcLoop_none {α : Type} {h : DV → Rs (Option DV)} {g : α → DV} : ∀ {xs : List α}, (∀ x ∈ xs, h (g x) = .ok none) → lcLoop h (xs.map g) = .ok []
  | [], _ => rfl
  | x :: xs, k => by
    rw [List.map_cons]
    unfold lcLoop
    rw [k x List.mem_cons_self]
    dsimp only [Rs.bind]
    rw [lcLoop_none (xs := xs) fun y hy => k y (List.mem_cons_of_mem _ hy)]
    rfl
theorem dAll_e {α : Type} {f : α → Bool} : ∀ {xs : List α}, bls (xs.map fun x => DV.bl (f x)) = some (xs.map f)
  | [] => rfl
  | x :: xs => by
    rw [List.map_cons]
    unfold bls
    rw [dAll_e (xs := xs)]
    rfl
theorem dAll_ok {α : Type} {f : α → Bool} {xs : List α} : dAll [.lst (xs.map fun x => DV.bl (f x))] = .ok (.bl (xs.all f)) := by
  have e : dAll [.lst (xs.map fun x => DV.bl (f x))] = (match bls (xs.map fun x => DV.bl (f x)) with | some ns => .ok (.bl (ns.all id)) | none => .stuck) := rfl
  rw [e, dAll_e]
  simp [List.all_map]
end M
end

/-! text Q8 -/
section
set_option maxRecDepth 100000
set_option maxHeartbeats 4000000
namespace M
open PySem DL
/-! a loop that may hand False back -/
theorem forG_chk {tg : GG} {b : GS} {p : Nat → Bool} {I : EnvD → Prop} (N : Nat) (hi : ∀ (i : Nat) (ρ : EnvD), i < N → I ρ → ∃ ρ1, tg (.int ((0 : Int) + (i : Int))) ρ = .ok ρ1 ∧ ((p i = true ∧ ∃ ρ2, b ρ1 = .nx ρ2 ∧ I ρ2) ∨ (p i = false ∧ ∃ ρ2, b ρ1 = .rt (.bl false) ρ2)))
    (n i : Nat) (ρ : EnvD) (hn : i + n ≤ N) (h : I ρ) :
    ((∀ k, i ≤ k → k < i + n → p k = true) ∧ ∃ ρ', forG tg b ((List.range' i n).map fun k : Nat => DV.int ((0 : Int) + (k : Int))) ρ = .nx ρ' ∧ I ρ') ∨
    ((∃ k, i ≤ k ∧ k < i + n ∧ p k = false) ∧ ∃ ρ', forG tg b ((List.range' i n).map fun k : Nat => DV.int ((0 : Int) + (k : Int))) ρ = .rt (.bl false) ρ') := by
  induction n generalizing i ρ with
  | zero => exact .inl ⟨fun k h1 h2 => by omega, ρ, rfl, h⟩
  | succ n ih =>
    obtain ⟨ρ1, e1, h2⟩ := hi i ρ (by omega) h
    rw [List.range'_succ, List.map_cons]
    rcases h2 with ⟨pi, ρ2, e2, h3⟩ | ⟨pi, ρ2, e2⟩
    · rw [forG_cons e1 e2]
      rcases ih (i + 1) ρ2 (by omega) h3 with ⟨a, c⟩ | ⟨⟨k, k1, k2, k3⟩, c⟩
      · refine .inl ⟨fun k h1 h2 => ?_, c⟩
        by_cases e : k = i
        · rw [e]; exact pi
        · exact a k (by omega) (by omega)
      · exact .inr ⟨⟨k, by omega, by omega, k3⟩, c⟩
    · exact .inr ⟨⟨i, by omega, by omega, pi⟩, ρ2, forG_consR e1 e2⟩
/-- the test of one row and one weight -/
theorem fit_test {ρ : EnvD} {a b : GE} {r : Row} {w : Int × Int} (h3 : in3 r.r) (ha : a ρ = .ok (rowD r)) (hb : b ρ = .ok (pr w)) :
    gOr (gAnd (gB (gBin dEq (gBin dIx a (gC (.int 1))) (gC (.str (Str.ofString "least"))))) (gB (gBin dLt (gBin dIx b (gC (.int 0))) (gC (.int 0))))) (gAnd (gB (gBin dEq (gBin dIx a (gC (.int 1))) (gC (.str (Str.ofString "most"))))) (gB (gBin dGt (gBin dIx b (gC (.int 0))) (gC (.int 0))))) ρ = .ok (!fit1 r w) := by
  have c1 : gBin dIx a (gC (.int 1)) ρ = .ok (.str r.r) := (bin_e ha rfl).trans ix3_1
  have c2 : gBin dIx b (gC (.int 0)) ρ = .ok (.int w.1) := (bin_e hb rfl).trans ix0
  rw [or_e (and_e (b_e ((bin_e c1 rfl).trans (eq_least h3))) (b_e ((bin_e c2 rfl).trans dLt_i))) (and_e (b_e ((bin_e c1 rfl).trans (eq_most h3))) (b_e ((bin_e c2 rfl).trans dGt_i)))]
  unfold fit1
  rw [Bool.not_not]
def fitB (rs : List Row) (ws : List (Int × Int)) : Bool := decide (∀ k, k < rs.length → fit1 (rs.getD k ⟨[], Str.ofString "", 0⟩) (ws.getD k (0, 1)) = true)
def fBody (a b : GE) : GS := gIfS (gOr (gAnd (gB (gBin dEq (gBin dIx a (gC (.int 1))) (gC (.str (Str.ofString "least"))))) (gB (gBin dLt (gBin dIx b (gC (.int 0))) (gC (.int 0))))) (gAnd (gB (gBin dEq (gBin dIx a (gC (.int 1))) (gC (.str (Str.ofString "most"))))) (gB (gBin dGt (gBin dIx b (gC (.int 0))) (gC (.int 0)))))) (gRet (gPure (gC (.bl false)))) gNext
theorem fit_loop {i ia ib ik : Nat} {rs : List Row} {ws : List (Int × Int)} {I : EnvD → Prop} {ρ : EnvD} (h3 : ∀ r ∈ rs, in3 r.r) (e : ws.length = rs.length) (hl : rs.length ≤ 1000)
    (hI : ∀ ρ, I ρ → lk ρ ia = .ok (rsD rs) ∧ lk ρ ib = .ok (dp ws) ∧ ∀ d, I (ρ.set ik (some d)) ∧ lk (ρ.set ik (some d)) ik = .ok d) (hi : gRng1 (aCons (gCB dLen (aCons (gVar ia) aNil)) aNil) ρ = .ok (rngD 0 rs.length)) (h : I ρ) :
    finB (gSeq (gFor (gRng1 (aCons (gCB dLen (aCons (gVar ia) aNil)) aNil)) (gtName ik) (fBody (gBin dIx (gVar ia) (gVar ik)) (gBin dIx (gVar ib) (gVar ik)))) (gRet (gPure (gC (.bl true)))) ρ) = .ok (.bl (fitB rs ws)) := by
  have z := forG_chk (tg := gtName ik) (b := fBody (gBin dIx (gVar ia) (gVar ik)) (gBin dIx (gVar ib) (gVar ik))) (p := fun k => fit1 (rs.getD k ⟨[], Str.ofString "", 0⟩) (ws.getD k (0, 1))) (I := I) rs.length (fun k ρ hk hρ => by
    obtain ⟨_, _, a3⟩ := hI ρ hρ
    obtain ⟨b1, b2⟩ := a3 (.int ((0 : Int) + (k : Int)))
    obtain ⟨b3, b4, _⟩ := hI _ b1
    refine ⟨_, rfl, ?_⟩
    have g1 : gBin dIx (gVar ia) (gVar ik) (ρ.set ik (some (.int ((0 : Int) + (k : Int))))) = .ok (rowD rs[k]) := (bin_e b3 b2).trans (dIx_g (g := rowD) k (by omega) hk)
    have g2 : gBin dIx (gVar ib) (gVar ik) (ρ.set ik (some (.int ((0 : Int) + (k : Int))))) = .ok (pr (ws[k]'(by omega))) := (bin_e b4 b2).trans (dIx_g (g := pr) k (by omega) (by omega))
    have t := fit_test (h3 _ (List.getElem_mem hk)) g1 g2
    rw [getD_lt hk, getD_lt (by omega : k < ws.length)]
    unfold fBody
    rw [ev_ifS t]
    cases f : fit1 rs[k] (ws[k]'(by omega)) with
    | true => exact .inl ⟨rfl, _, rfl, b1⟩
    | false => exact .inr ⟨rfl, _, rfl⟩) rs.length 0 ρ (by omega) h
  rcases z with ⟨a, ρ', f1, _⟩ | ⟨⟨k, k1, k2, k3⟩, ρ', f1⟩
  · have d : fitB rs ws = true := decide_eq_true fun k hk => a k (by omega) (by omega)
    rw [ev_seq (ev_for hi (by rw [rngD_eq]; exact f1)), d]
    rfl
  · have d : fitB rs ws = false := decide_eq_false fun q => by
      have := q k (by omega)
      rw [k3] at this
      cases this
    rw [ev_seqR (ev_forR hi (by rw [rngD_eq]; exact f1)), d]
    rfl
theorem lfit_ok {n : Nat} {rs : List Row} {ws : List (Int × Int)} (hg : ∀ r ∈ rs, Gr n r) (hl : rs.length ≤ 1000) (e : ws.length = rs.length) : m__law_fit [rsD rs, dp ws] = .ok (.bl (fitB rs ws)) := by
  have st : startD 3 [rsD rs, dp ws] = [some (rsD rs), some (dp ws), none] := rfl
  have t := ne_e (ρ := [some (rsD rs), some (dp ws), none]) (lenD_e (a := gVar 1) (f := pr) (xs := ws) rfl) (lenD_e (a := gVar 0) (f := rowD) (xs := rs) rfl)
  rw [decide_eq_true (by omega : (ws.length : Int) = rs.length)] at t
  unfold m__law_fit runB b__law_fit
  rw [st, ev_skip t]
  exact fit_loop (ia := 0) (ib := 1) (ik := 2) (I := fun ρ => ∃ t, ρ = [some (rsD rs), some (dp ws), t]) (i := 0) (fun r hr => (hg r hr).2.2.2) e hl (fun ρ ⟨t, hρ⟩ => by subst hρ; exact ⟨rfl, rfl, fun d => ⟨⟨_, rfl⟩, rfl⟩⟩) (rng1_e (len_e (g := rowD) (xs := rs) rfl) rfl hl) ⟨none, rfl⟩
theorem arefit_ok {ps : List Int} {n : Nat} {rs : List Row} {ws : List (Int × Int)} (hg : ∀ r ∈ rs, Gr n r) (hl : rs.length ≤ 1000) (e : ws.length = rs.length) : m_are_fit [prg ps rs, dp ws] = .ok (.bl (fitB rs ws)) := by
  have st : startD 4 [prg ps rs, dp ws] = [some (prg ps rs), some (dp ws), none, none] := rfl
  have s1 : gAsg (gPure (gMeth "Program" "rows" m_Program_rows (gVar 0) aNil)) (gtName 2) [some (prg ps rs), some (dp ws), none, none] = .nx [some (prg ps rs), some (dp ws), some (rsD rs), none] := set_e (i := 2) (meth_rows hl rfl)
  have t := ne_e (ρ := [some (prg ps rs), some (dp ws), some (rsD rs), none]) (lenD_e (a := gVar 1) (f := pr) (xs := ws) rfl) (lenD_e (a := gVar 2) (f := rowD) (xs := rs) rfl)
  rw [decide_eq_true (by omega : (ws.length : Int) = rs.length)] at t
  unfold m_are_fit runB b_are_fit
  rw [st, ev_seq s1, ev_skip t]
  exact fit_loop (ia := 2) (ib := 1) (ik := 3) (I := fun ρ => ∃ t, ρ = [some (prg ps rs), some (dp ws), some (rsD rs), t]) (i := 0) (fun r hr => (hg r hr).2.2.2) e hl (fun ρ ⟨t, hρ⟩ => by subst hρ; exact ⟨rfl, rfl, fun d => ⟨⟨_, rfl⟩, rfl⟩⟩) (rng1_e (len_e (g := rowD) (xs := rs) rfl) rfl hl) ⟨none, rfl⟩
theorem arefit_no {ps : List Int} {rs : List Row} {ws : List (Int × Int)} (hl : rs.length ≤ 1000) (e : ws.length ≠ rs.length) : m_are_fit [prg ps rs, dp ws] = .ok (.bl false) := by
  have st : startD 4 [prg ps rs, dp ws] = [some (prg ps rs), some (dp ws), none, none] := rfl
  have s1 : gAsg (gPure (gMeth "Program" "rows" m_Program_rows (gVar 0) aNil)) (gtName 2) [some (prg ps rs), some (dp ws), none, none] = .nx [some (prg ps rs), some (dp ws), some (rsD rs), none] := set_e (i := 2) (meth_rows hl rfl)
  have t := ne_e (ρ := [some (prg ps rs), some (dp ws), some (rsD rs), none]) (lenD_e (a := gVar 1) (f := pr) (xs := ws) rfl) (lenD_e (a := gVar 2) (f := rowD) (xs := rs) rfl)
  rw [decide_eq_false (by omega : ¬ (ws.length : Int) = rs.length)] at t
  unfold m_are_fit runB b_are_fit
  rw [st, ev_seq s1, ev_seqR (d := .bl false) (ρ' := [some (prg ps rs), some (dp ws), some (rsD rs), none]) (by rw [ev_ifS t]; rfl)]
  rfl
theorem fit_use {rs : List Row} {ws : List (Int × Int)} (e : ws.length = rs.length) (h : fitB rs ws = true) : ∀ p ∈ rs.zip ws, fit1 p.1 p.2 = true := by
  intro p hp
  have q := of_decide_eq_true h
  obtain ⟨k, hk, rfl⟩ := List.mem_iff_getElem.mp hp
  rw [List.length_zip] at hk
  have := q k (by omega)
  rw [getD_lt (by omega : k < rs.length), getD_lt (by omega : k < ws.length)] at this
  rw [List.getElem_zip]
  exact this
end M
end

/-! text B1 -/
section
set_option maxRecDepth 100000
set_option maxHeartbeats 4000000
namespace M
open PySem DL
section
variable {ρ : EnvD} {a b c g : GE} {o : OpA} {x y z d : DV} {i : Nat}
theorem app_g {α : Type} {g : α → DV} {xs : List α} {x : α} {i : Nat} {ρ : EnvD} {ge : GE} (h1 : lk ρ i = .ok (.lst (xs.map g))) (h2 : ge ρ = .ok (g x)) (h : xs.length ≤ 1000) : gDrop (gApp i (gPure ge)) ρ = .nx (ρ.set i (some (.lst ((xs ++ [x]).map g)))) := by
  unfold gDrop gApp
  rw [h1]
  dsimp only
  rw [ev_pure, h2]
  dsimp only [Rs.bind]
  rw [h1]
  dsimp only
  rw [if_pos (by rw [List.length_map, sz_eq]; omega), List.map_append]
  rfl
theorem tup3 {a b c : GE} {ρ : EnvD} {x y z : DV} (h1 : a ρ = .ok x) (h2 : b ρ = .ok y) (h3 : c ρ = .ok z) : eTup (aCons a (aCons b (aCons c aNil))) ρ = .ok (.tup [x, y, z]) := by
  rw [ev_tup, ev_cons, h1, ev_cons, h2, ev_cons, h3]
  show (if 0 + 1 + 1 + 1 ≤ sizeLine then _ else _) = _
  rw [if_pos (by decide)]
theorem md {z n : Int} (h : 0 < n) : dMod (.int z) (.int n) = .ok (.int (z % n)) := dMod_i h
theorem eqv_all : ∀ {zs : List (Int × Int)}, PyData.eqvAll (pys (zs.map pr)) (pys (zs.map pr)) = true
  | [] => by simp [pys, PyData.eqvAll]
  | z :: zs => by
    show PyData.eqvAll (py (pr z) :: pys (zs.map pr)) (py (pr z) :: pys (zs.map pr)) = true
    unfold PyData.eqvAll
    have e : eqv (pr z) (pr z) = true := by rw [eqv_pr, decide_eq_true rfl]
    have e : PyData.eqv (py (pr z)) (py (pr z)) = true := e
    rw [e, eqv_all (zs := zs)]
    rfl
theorem eqoks_dp : ∀ {zs : List (Int × Int)}, eqoks (zs.map pr) 19 = true
  | [] => rfl
  | z :: zs => by
    show (eqok (pr z) 19 && eqoks (zs.map pr) 19) = true
    rw [eqoks_dp (zs := zs)]
    rfl
theorem ne_dp {zs : List (Int × Int)} : dNe (dp zs) (dp zs) = .ok (.bl false) := by
  have q : eqok (dp zs) 20 = true := eqoks_dp
  unfold dNe
  rw [q, if_pos (by rfl)]
  have e : eqv (dp zs) (dp zs) = true := by
    show PyData.eqv (.list (pys (zs.map pr))) (.list (pys (zs.map pr))) = true
    unfold PyData.eqv
    exact eqv_all
  rw [e]
  rfl
theorem ne_pr {z : Int × Int} : dNe (pr z) (pr z) = .ok (.bl false) := by
  rw [dNe_pr, decide_eq_true rfl]
  rfl
theorem ne_bl {x : Bool} : dNe (.bl x) (.bl x) = .ok (.bl false) := by cases x <;> rfl
theorem chain_lt {a b c : GE} {ρ : EnvD} {x y z : Int} (h1 : a ρ = .ok (.int x)) (h2 : b ρ = .ok (.int y)) (h3 : c ρ = .ok (.int z)) : gChain dLe dLt a b c ρ = .ok (.bl (decide (x ≤ y) && decide (y < z))) := by
  unfold gChain
  rw [h1]
  dsimp only [Rs.bind]
  rw [h2]
  dsimp only [Rs.bind]
  rw [dLe_i]
  dsimp only [Rs.bind]
  rw [ev_asB]
  cases decide (x ≤ y) with
  | false => rfl
  | true =>
    dsimp only
    rw [if_pos rfl, h3]
    rfl
theorem chain_le {a b c : GE} {ρ : EnvD} {x y z : Int} (h1 : a ρ = .ok (.int x)) (h2 : b ρ = .ok (.int y)) (h3 : c ρ = .ok (.int z)) : gChain dLe dLe a b c ρ = .ok (.bl (decide (x ≤ y) && decide (y ≤ z))) := by
  unfold gChain
  rw [h1]
  dsimp only [Rs.bind]
  rw [h2]
  dsimp only [Rs.bind]
  rw [dLe_i]
  dsimp only [Rs.bind]
  rw [ev_asB]
  cases decide (x ≤ y) with
  | false => rfl
  | true =>
    dsimp only
    rw [if_pos rfl, h3]
    rfl
theorem not_e {t : GT} {ρ : EnvD} {z : Bool} (h : t ρ = .ok z) : gNot t ρ = .ok (!z) := by
  rw [ev_not, h]
theorem raise_i {c : Str} {g : GE} {ρ : EnvD} {i : Int} (h : g ρ = .ok (.int i)) : gRaise c (aCons g aNil) ρ = .ex c (.int i) := by
  unfold gRaise
  rw [ev_cons, h]
  rfl
theorem ev_stop {t : GT} {f k : GS} {ρ ρ' : EnvD} {d : DV} (h : t ρ = .ok true) (h2 : f ρ = .rt d ρ') : gSeq (gIfS t f gNext) k ρ = .rt d ρ' := ev_seqR (by rw [ev_ifS h, if_pos rfl, h2])
theorem ev_stopE {t : GT} {f k : GS} {ρ : EnvD} {c : Str} {d : DV} (h : t ρ = .ok true) (h2 : f ρ = .ex c d) : gSeq (gIfS t f gNext) k ρ = .ex c d := ev_seqE (by rw [ev_ifS h, if_pos rfl, h2])
def fstB (b : Nat → Option Str) : Nat → Nat → Option (Str × Nat)
  | _, 0 => none
  | i, n + 1 => match b i with
    | some c => some (c, i)
    | none => fstB b (i + 1) n
theorem forG_fst {tg : GG} {b : GS} {bd : Nat → Option Str} {I : EnvD → Prop} {St : Str → Nat → Out → Prop} (N : Nat) (hs : ∀ c k o, St c k o → (∃ d ρ, o = .rt d ρ) ∨ ∃ c d, o = .ex c d)
    (hi : ∀ (i : Nat) (ρ : EnvD), i < N → I ρ → ∃ ρ1, tg (.int ((0 : Int) + (i : Int))) ρ = .ok ρ1 ∧ (bd i = none → ∃ ρ2, b ρ1 = .nx ρ2 ∧ I ρ2) ∧ ∀ c, bd i = some c → St c i (b ρ1)) (n i : Nat) (ρ : EnvD) (hn : i + n ≤ N) (h : I ρ) :
    (fstB bd i n = none → ∃ ρ', forG tg b ((List.range' i n).map fun k : Nat => DV.int ((0 : Int) + (k : Int))) ρ = .nx ρ' ∧ I ρ') ∧ ∀ c k, fstB bd i n = some (c, k) → St c k (forG tg b ((List.range' i n).map fun k : Nat => DV.int ((0 : Int) + (k : Int))) ρ) := by
  induction n generalizing i ρ with
  | zero => exact ⟨fun _ => ⟨ρ, rfl, h⟩, fun c k e => (by cases e)⟩
  | succ n ih =>
    obtain ⟨ρ1, e1, h2, h3⟩ := hi i ρ (by omega) h
    rw [List.range'_succ, List.map_cons]
    unfold fstB
    cases e : bd i with
    | none =>
      obtain ⟨ρ2, e2, h4⟩ := h2 e
      rw [forG_cons e1 e2]
      exact ih (i + 1) ρ2 (by omega) h4
    | some c =>
      refine ⟨fun z => (by cases z), fun c2 k z => ?_⟩
      cases z
      have z := h3 c e
      rcases hs c i _ z with ⟨d, ρ', q⟩ | ⟨c', d, q⟩
      · rw [forG_consR e1 q]
        rw [q] at z
        exact z
      · have w : forG tg b (.int ((0 : Int) + (i : Int)) :: (List.range' (i + 1) n).map fun k : Nat => DV.int ((0 : Int) + (k : Int))) ρ = .ex c' d := by
          conv => lhs; unfold forG
          rw [e1]
          dsimp only
          rw [q]
        rw [w]
        rw [q] at z
        exact z
theorem ev_forX {gi : GI} {tg : GG} {b : GS} {ρ : EnvD} {its : List DV} {c : Str} {d : DV} (h1 : gi ρ = .ok its) (h2 : forG tg b its ρ = .ex c d) : gFor gi tg b ρ = .ex c d := by
  unfold gFor
  rw [h1]
  exact h2
theorem imm_e {g : GE} {ρ : EnvD} {d : DV} (h : g ρ = .ok d) (hi : imm d = true) : gImm g ρ = .ok d := by
  unfold gImm
  rw [h]
  exact if_pos hi
theorem seq_raw {g : GE} {ρ : EnvD} {ds : List DV} (h : g ρ = .ok (.lst ds)) : gSeqI g ρ = .ok ds := by
  unfold gSeqI
  rw [h]
  rfl
theorem forG_nil {tg : GG} {b : GS} {ρ : EnvD} : forG tg b [] ρ = .nx ρ := rfl
theorem m1_e {ρ : EnvD} : gUn dNeg (gC (.int 1)) ρ = .ok (.int (-1)) := rfl
theorem cb4 {a b c d : GE} {o : OpA} {ρ : EnvD} {x y z u : DV} (h : a ρ = .ok x) (h2 : b ρ = .ok y) (h3 : c ρ = .ok z) (h4 : d ρ = .ok u) : gCB o (aCons a (aCons b (aCons c (aCons d aNil)))) ρ = o [x, y, z, u] := by
  rw [ev_cb, ev_cons, h, ev_cons, h2, ev_cons, h3, ev_cons, h4]
  rfl
theorem cut_tail {xs : List DV} : cutD xs (some 1) none = xs.drop 1 := by
  unfold cutD
  rw [show (1 : Int) = ((1 : Nat) : Int) from rfl, HT.sIx_nat, HT.sIx_none]
  cases xs with
  | nil => rfl
  | cons x xs =>
    have e : min 1 (x :: xs).length = 1 := by rw [List.length_cons]; omega
    rw [e]
    show xs.take (xs.length + 1 - 1) = xs
    rw [Nat.add_sub_cancel, List.take_length]
theorem app_raw {ds : List DV} {d : DV} {i : Nat} {ρ : EnvD} {ge : GE} (h1 : lk ρ i = .ok (.lst ds)) (h2 : ge ρ = .ok d) (h : ds.length ≤ 1000) : gDrop (gApp i (gPure ge)) ρ = .nx (ρ.set i (some (.lst (ds ++ [d])))) := by
  unfold gDrop gApp
  rw [h1]
  dsimp only
  rw [ev_pure, h2]
  dsimp only [Rs.bind]
  rw [h1]
  dsimp only
  rw [if_pos (by rw [sz_eq]; omega)]
theorem cb5 {a b c d e : GE} {o : OpA} {ρ : EnvD} {x1 x2 x3 x4 x5 : DV} (h1 : a ρ = .ok x1) (h2 : b ρ = .ok x2) (h3 : c ρ = .ok x3) (h4 : d ρ = .ok x4) (h5 : e ρ = .ok x5) : gCB o (aCons a (aCons b (aCons c (aCons d (aCons e aNil))))) ρ = o [x1, x2, x3, x4, x5] := by
  rw [ev_cb, ev_cons, h1, ev_cons, h2, ev_cons, h3, ev_cons, h4, ev_cons, h5]
  rfl
theorem forG_list {α : Type} {g : α → DV} {tg : GG} {b : GS} (N : Nat) (I : List α → EnvD → Prop) : ∀ (xs done : List α) (ρ : EnvD), done.length + xs.length ≤ N → (∀ (x : α) (done : List α) (ρ : EnvD), x ∈ xs → done.length < N → I done ρ → ∃ ρ1 ρ2, tg (g x) ρ = .ok ρ1 ∧ b ρ1 = .nx ρ2 ∧ I (done ++ [x]) ρ2) → I done ρ →
    ∃ ρ', forG tg b (xs.map g) ρ = .nx ρ' ∧ I (done ++ xs) ρ'
  | [], done, ρ, _, _, h => ⟨ρ, rfl, by rw [List.append_nil]; exact h⟩
  | x :: xs, done, ρ, hN, hi, h => by
    rw [List.length_cons] at hN
    obtain ⟨ρ1, ρ2, e1, e2, h2⟩ := hi x done ρ List.mem_cons_self (by omega) h
    obtain ⟨ρ', e3, h3⟩ := forG_list N I xs (done ++ [x]) ρ2 (by rw [List.length_append]; show done.length + 1 + _ ≤ N; omega) (fun y d r hy => hi y d r (List.mem_cons_of_mem _ hy)) h2
    refine ⟨ρ', ?_, by rw [List.append_assoc] at h3; exact h3⟩
    rw [List.map_cons, forG_cons e1 e2]
    exact e3
theorem flat_e {g : GE} {ρ : EnvD} {d : DV} (h : g ρ = .ok d) (f : (DL.flat d).isSome = true) : gFlat g ρ = .ok d := by
  unfold gFlat
  rw [h]
  dsimp only [Rs.bind]
  rw [if_pos f]
theorem pure_e {g : GE} {ρ : EnvD} {d : DV} (h : g ρ = .ok d) : gPure g ρ = .ok (d, ρ) := by rw [ev_pure, h]
theorem xtup3 {a b c : GX} {ρ ρ1 ρ2 ρ3 : EnvD} {x y z : DV} (h1 : a ρ = .ok (x, ρ1)) (h2 : b ρ1 = .ok (y, ρ2)) (h3 : c ρ2 = .ok (z, ρ3)) : xTup (xCons a (xCons b (xCons c xNil))) ρ = .ok (.tup [x, y, z], ρ3) := by
  unfold xTup xCons xNil
  rw [h1]
  dsimp only [Rs.bind]
  rw [h2]
  dsimp only [Rs.bind]
  rw [h3]
  show (if 0 + 1 + 1 + 1 ≤ sizeLine then _ else _) = _
  rw [if_pos (by decide)]
theorem lc_b {tg : GG} {gt : GT} {ge : GE} {ρ ρ1 : EnvD} {d x : DV} {z : Bool} (h1 : tg d ρ = .ok ρ1) (h2 : gt ρ1 = .ok z) (h3 : ge ρ1 = .ok x) : lcTurn tg gt ge ρ d = .ok (if z = true then some x else none) := by
  cases z
  · exact lc_no h1 h2
  · exact lc_yes h1 h2 h3
theorem fst_none {b : Nat → Option Str} : ∀ {n i : Nat}, (∀ k, i ≤ k → k < i + n → b k = none) → fstB b i n = none
  | 0, _, _ => rfl
  | n + 1, i, h => by
    unfold fstB
    rw [h i (Nat.le_refl _) (by omega)]
    exact fst_none (n := n) fun k h1 h2 => h k (by omega) (by omega)
theorem fst_at {b : Nat → Option Str} {c : Str} {k : Nat} : ∀ {n i : Nat}, (∀ j, i ≤ j → j < k → b j = none) → b k = some c → i ≤ k → k < i + n → fstB b i n = some (c, k)
  | 0, i, _, _, h1, h2 => by omega
  | n + 1, i, h, hc, h1, h2 => by
    unfold fstB
    by_cases e : i = k
    · subst e
      rw [hc]
    · rw [h i (Nat.le_refl _) (by omega)]
      exact fst_at (n := n) (fun j h3 h4 => h j (by omega) h4) hc (by omega) (by omega)
theorem cut_to {α : Type} {g : α → DV} {xs : List α} {z : Int} (h : 0 ≤ z) : cutD (xs.map g) none (some z) = (xs.take z.toNat).map g := by
  have e : z = ((z.toNat : Nat) : Int) := by omega
  rw [e, cut_front, Int.toNat_natCast, List.map_take]
theorem cut_from {α : Type} {g : α → DV} {xs : List α} {z : Int} (h : 0 ≤ z) : cutD (xs.map g) (some z) none = (xs.drop z.toNat).map g := by
  have e : z = ((z.toNat : Nat) : Int) := by omega
  unfold cutD
  rw [e, HT.sIx_nat, HT.sIx_none, Int.toNat_natCast, List.map_drop]
  by_cases c : z.toNat ≤ (xs.map g).length
  · rw [Nat.min_eq_left c, List.take_of_length_le (by rw [List.length_drop]; omega)]
  · rw [Nat.min_eq_right (by omega), List.drop_length, List.drop_of_length_le (by omega)]
    simp
theorem slT_e {α : Type} {g : α → DV} {xs : List α} {a b : GE} {ρ : EnvD} {z : Int} (h1 : a ρ = .ok (.lst (xs.map g))) (h2 : b ρ = .ok (.int z)) (h : 0 ≤ z) : gSl a gNoPart (gPart b) ρ = .ok (.lst ((xs.take z.toNat).map g)) := by
  have e : gSl a gNoPart (gPart b) ρ = .ok (.lst (cutD (xs.map g) none (some z))) := by
    unfold gSl gNoPart gPart
    rw [h1]
    dsimp only [Rs.bind]
    rw [h2]
    rfl
  rw [e, cut_to h]
theorem slF_e {α : Type} {g : α → DV} {xs : List α} {a b : GE} {ρ : EnvD} {z : Int} (h1 : a ρ = .ok (.lst (xs.map g))) (h2 : b ρ = .ok (.int z)) (h : 0 ≤ z) : gSl a (gPart b) gNoPart ρ = .ok (.lst ((xs.drop z.toNat).map g)) := by
  have e : gSl a (gPart b) gNoPart ρ = .ok (.lst (cutD (xs.map g) (some z) none)) := by
    unfold gSl gNoPart gPart
    rw [h1]
    dsimp only [Rs.bind]
    rw [h2]
    rfl
  rw [e, cut_from h]
theorem cat_e {α : Type} {g : α → DV} {xs ys : List α} (h : xs.length + ys.length ≤ 100000) : dAdd (.lst (xs.map g)) (.lst (ys.map g)) = .ok (.lst ((xs ++ ys).map g)) := by
  have : (xs.map g).length + (ys.map g).length ≤ sizeLine := by rw [List.length_map, List.length_map, sz_eq]; omega
  show (match (match (Rs.stuck : Rs DV) with | .stuck => (match dCat (.lst (xs.map g)) (.lst (ys.map g)) with | .stuck => dCatS (.lst (xs.map g)) (.lst (ys.map g)) | r => r) | r => r) with | r => r) = _
  simp only [dCat, this, if_true]
  simp [List.map_append]
theorem lst2 {a b : GE} {ρ : EnvD} {x y : DV} (h1 : a ρ = .ok x) (h2 : b ρ = .ok y) : eLst (aCons a (aCons b aNil)) ρ = .ok (.lst [x, y]) := by
  rw [ev_lst, ev_cons, h1, ev_cons, h2]
  show (if 0 + 1 + 1 ≤ sizeLine then _ else _) = _
  rw [if_pos (by decide)]
theorem lst3 {a b c : GE} {ρ : EnvD} {x y z : DV} (h1 : a ρ = .ok x) (h2 : b ρ = .ok y) (h3 : c ρ = .ok z) : eLst (aCons a (aCons b (aCons c aNil))) ρ = .ok (.lst [x, y, z]) := by
  rw [ev_lst, ev_cons, h1, ev_cons, h2, ev_cons, h3]
  show (if 0 + 1 + 1 + 1 ≤ sizeLine then _ else _) = _
  rw [if_pos (by decide)]
theorem lst4 {a b c d : GE} {ρ : EnvD} {x y z u : DV} (h1 : a ρ = .ok x) (h2 : b ρ = .ok y) (h3 : c ρ = .ok z) (h4 : d ρ = .ok u) : eLst (aCons a (aCons b (aCons c (aCons d aNil)))) ρ = .ok (.lst [x, y, z, u]) := by
  rw [ev_lst, ev_cons, h1, ev_cons, h2, ev_cons, h3, ev_cons, h4]
  show (if 0 + 1 + 1 + 1 + 1 ≤ sizeLine then _ else _) = _
  rw [if_pos (by decide)]
theorem one_e {α : Type} {g : α → DV} {x : α} {a : GE} {ρ : EnvD} (h : a ρ = .ok (g x)) : eLst (aCons a aNil) ρ = .ok (.lst ([x].map g)) := by
  rw [ev_lst, ev_cons, h]
  show (if 0 + 1 ≤ sizeLine then _ else _) = _
  rw [if_pos (by decide)]
  rfl
theorem rep_g {α : Type} {g : α → DV} {x : α} {z : Int} {n : Nat} (e : z = (n : Int)) (h : n ≤ 1000) : dRep (.lst ([x].map g)) (.int z) = .ok (.lst ((List.replicate n x).map g)) := by
  subst e
  unfold dRep
  dsimp only
  rw [if_pos ⟨by rw [List.length_map, Int.toNat_natCast, sz_eq]; show 1 * n ≤ _; omega, by omega, by omega⟩, Int.toNat_natCast]
  congr 2
  induction n with
  | zero => rfl
  | succ n ih =>
    rw [List.replicate_succ, List.flatten_cons, ih (by omega), List.replicate_succ]
    rfl
theorem di_shw {xs : List Int} (h : ∀ x ∈ xs, x.natAbs ≤ 100) : SH.Shw 1 (26 * xs.length) (di xs) := SH.map (k := 0) (w := 25) (g := DV.int) fun x hx => SH.int (by have := h x hx; omega)
end
end M
end

/-! text B2 -/
section
set_option maxRecDepth 100000
set_option maxHeartbeats 4000000
namespace M
open PySem DL
theorem and_f {s t : GT} {ρ : EnvD} (h1 : s ρ = .ok false) : gAnd s t ρ = .ok false := by
  unfold gAnd
  rw [h1]
  rfl
theorem eqoks_i : ∀ xs : List Int, eqoks (xs.map DV.int) 19 = true
  | [] => rfl
  | x :: xs => by
    show (eqok (.int x) 19 && eqoks (xs.map DV.int) 19) = true
    rw [eqoks_i xs]
    rfl
theorem any_i {x : Int} : ∀ xs : List Int, ((xs.map DV.int).any fun z => eqv z (.int x)) = decide (x ∈ xs)
  | [] => by simp
  | y :: ys => by
    rw [List.map_cons, List.any_cons, any_i ys, eqv_i]
    by_cases h : y = x
    · subst h; simp
    · have h2 : ¬ x = y := fun z => h z.symm
      simp [h, h2]
theorem in_i {x : Int} {xs : List Int} : dIn (.int x) (di xs) = .ok (.bl (decide (x ∈ xs))) := by
  unfold dIn dInB
  dsimp only
  have q : eqok (.lst (xs.map DV.int)) 20 = true := eqoks_i xs
  rw [if_pos (by show (eqok (.int x) 20 && eqok (.lst (xs.map DV.int)) 20) = true; rw [q]; rfl)]
  dsimp only [Rs.bind]
  rw [any_i]
theorem iLst_i : ∀ xs : List Int, iLst (xs.map DV.int) = some xs
  | [] => rfl
  | x :: xs => by
    show (iLst (xs.map DV.int)).map (x :: ·) = _
    rw [iLst_i xs]
    rfl
theorem bind_ok {α β : Type} {x : α} {f : α → Rs β} : (Rs.ok x).bind f = f x := rfl
theorem args2 {a b : GE} {ρ : EnvD} {x y : DV} (h1 : a ρ = .ok x) (h2 : b ρ = .ok y) : aCons a (aCons b aNil) ρ = .ok [x, y] := by
  rw [ev_cons, h1, ev_cons, h2]
  rfl
theorem ixz {xs : List Int} {z : Int} (h0 : 0 ≤ z) (h : z < (xs.length : Int)) : dIx (di xs) (.int z) = .ok (.int (xs.getD z.toNat 0)) := by
  have hk : z.toNat < xs.length := by omega
  rw [dIx_g (g := DV.int) z.toNat (by omega) hk, getD_lt hk]
def intL (n : Nat) : List Int := (List.range n).map fun i : Nat => (0 : Int) + (i : Int)
theorem ints_len {n : Nat} : (intL n).length = n := by unfold intL; rw [List.length_map, List.length_range]
theorem rngD_ints {n : Nat} : rngD 0 n = (intL n).map DV.int := by
  unfold rngD intL
  rw [List.map_map]
  rfl
theorem mem_ints {n : Nat} {e : Int} : e ∈ intL n ↔ 0 ≤ e ∧ e < (n : Int) := by
  unfold intL
  rw [List.mem_map]
  constructor
  · rintro ⟨i, hi, rfl⟩
    have := List.mem_range.mp hi
    omega
  · intro h
    exact ⟨e.toNat, List.mem_range.mpr (by omega), by omega⟩
theorem ints_asc {n : Nat} : (intL n).Pairwise (· < ·) := by
  unfold intL
  rw [List.pairwise_map]
  exact List.pairwise_lt_range.imp fun h => by omega
theorem rng_ints {g : GE} {ρ : EnvD} {i : Int} {n : Nat} (e : g ρ = .ok (.int i)) (e2 : i = (n : Int)) (h : n ≤ 1000) : gRng1 (aCons g aNil) ρ = .ok ((intL n).map DV.int) := (rng1_e e e2 h).trans (by rw [rngD_ints])
theorem lcLoop_filt {α : Type} {h : DV → Rs (Option DV)} {g f : α → DV} {p : α → Bool} : ∀ {xs : List α}, (∀ x ∈ xs, h (g x) = .ok (if p x = true then some (f x) else none)) → lcLoop h (xs.map g) = .ok ((xs.filter p).map f)
  | [], _ => rfl
  | x :: xs, k => by
    rw [List.map_cons]
    unfold lcLoop
    rw [k x List.mem_cons_self]
    have ih := lcLoop_filt (xs := xs) fun y hy => k y (List.mem_cons_of_mem _ hy)
    rw [List.filter_cons]
    cases p x with
    | true =>
      rw [if_pos rfl, if_pos rfl, List.map_cons]
      show (lcLoop h (xs.map g)).bind _ = _
      rw [ih]
      rfl
    | false =>
      rw [if_neg Bool.false_ne_true, if_neg Bool.false_ne_true]
      show (lcLoop h (xs.map g)).bind _ = _
      rw [ih]
      rfl
theorem xtup2 {a b : GX} {ρ ρ1 ρ2 : EnvD} {x y : DV} (h1 : a ρ = .ok (x, ρ1)) (h2 : b ρ1 = .ok (y, ρ2)) : xTup (xCons a (xCons b xNil)) ρ = .ok (.tup [x, y], ρ2) := by
  unfold xTup xCons xNil
  rw [h1]
  dsimp only [Rs.bind]
  rw [h2]
  dsimp only [Rs.bind]
  exact if_pos (by show (2 : Nat) ≤ sizeLine; exact two_le)
theorem dDiv_s {i j : Int} (h : 0 < j) (h2 : j ≤ 8000) : dDiv (.int i) (.int j) = .ok (.int (i / j)) := dDiv_i h (Nat.lt_of_le_of_lt (Nat.log2_le_self _) (by
  omega))
theorem setD_g {α : Type} {g : α → DV} {xs : List α} {z : Int} {x : α} (k : Nat) (e : z = (k : Int)) (h : k < xs.length) : setD (.lst (xs.map g)) (.int z) (g x) = .ok (.lst ((xs.set k x).map g)) := by
  subst e
  unfold setD
  dsimp only
  rw [List.length_map, ixN_nat h]
  dsimp only
  rw [List.map_set]
theorem setI_e {i : Nat} {gk g : GE} {ρ : EnvD} {x x' k y : DV} (h1 : g ρ = .ok y) (h2 : lk ρ i = .ok x) (h3 : gk ρ = .ok k) (h4 : setD x k y = .ok x') : gSetI i gk (gPure g) ρ = .nx (ρ.set i (some x')) := by
  unfold gSetI
  rw [pure_e h1]
  dsimp only
  rw [h2]
  dsimp only
  rw [h3]
  dsimp only
  rw [h4]
theorem and_t {s t : GT} {ρ : EnvD} {y : Bool} (h1 : s ρ = .ok true) (h2 : t ρ = .ok y) : gAnd s t ρ = .ok y := by
  unfold gAnd
  rw [h1]
  exact h2
theorem or_t {s t : GT} {ρ : EnvD} (h1 : s ρ = .ok true) : gOr s t ρ = .ok true := by
  unfold gOr
  rw [h1]
  rfl
theorem or_f {s t : GT} {ρ : EnvD} {y : Bool} (h1 : s ρ = .ok false) (h2 : t ρ = .ok y) : gOr s t ρ = .ok y := by
  unfold gOr
  rw [h1]
  exact h2
theorem asg2 {g : GE} {i j : Nat} {ρ ρ' : EnvD} {d : DV} (h : g ρ = .ok d) (h2 : gtTup [i, j] d ρ = .ok ρ') : gAsg (gPure g) (gtTup [i, j]) ρ = .nx ρ' := by
  unfold gAsg
  rw [ev_pure, h]
  dsimp only [Rs.bind]
  rw [h2]
theorem if_t {c : GT} {a b : GE} {ρ : EnvD} {z : Bool} (h : c ρ = .ok z) : gIf c a b ρ = if z = true then a ρ else b ρ := by
  unfold gIf
  rw [h]
theorem dSum_i {xs : List Int} : dSum [di xs] = .ok (.int xs.sum) := by
  unfold dSum
  dsimp only
  rw [iLst_i]
theorem sum_bd {b : Nat} : ∀ {xs : List Int}, (∀ x ∈ xs, x.natAbs ≤ b) → xs.sum.natAbs ≤ b * xs.length
  | [], _ => by simp
  | x :: xs, h => by
    have h1 := h x List.mem_cons_self
    have h2 := sum_bd (xs := xs) fun y hy => h y (List.mem_cons_of_mem _ hy)
    rw [List.sum_cons, List.length_cons, Nat.mul_succ]
    omega
theorem lcLoop_int {h : DV → Rs (Option DV)} {P : Int → Prop} : ∀ {xs : List Int}, (∀ x ∈ xs, ∃ y, P y ∧ h (.int x) = .ok (some (.int y))) → ∃ ys : List Int, ys.length = xs.length ∧ (∀ y ∈ ys, P y) ∧ lcLoop h (xs.map DV.int) = .ok (ys.map DV.int)
  | [], _ => ⟨[], rfl, fun y hy => (by cases hy), rfl⟩
  | x :: xs, k => by
    obtain ⟨y, hy, e⟩ := k x List.mem_cons_self
    obtain ⟨ys, l, hp, e2⟩ := lcLoop_int (xs := xs) fun z hz => k z (List.mem_cons_of_mem _ hz)
    refine ⟨y :: ys, by rw [List.length_cons, List.length_cons, l], fun z hz => ?_, ?_⟩
    · rcases List.mem_cons.mp hz with q | q
      · rw [q]; exact hy
      · exact hp z q
    · rw [List.map_cons, List.map_cons]
      unfold lcLoop
      rw [e]
      show (lcLoop h (xs.map DV.int)).bind _ = _
      rw [e2]
      rfl
theorem lc_ints {gi : GI} {tg : GG} {gt : GT} {ge : GE} {vs : List Nat} {ρ : EnvD} {n : Nat} {P : Int → Prop} (hi : gi ρ = .ok ((intL n).map DV.int)) (hn : n ≤ 1000) (h : ∀ o, 0 ≤ o → o < (n : Int) → ∃ y, P y ∧ lcTurn tg gt ge (wipeD ρ vs) (.int o) = .ok (some (.int y))) : ∃ ys : List Int, ys.length = n ∧ (∀ y ∈ ys, P y) ∧ gLc gi tg gt ge vs ρ = .ok (di ys) := by
  obtain ⟨ys, l, hp, e⟩ := lcLoop_int (P := P) (xs := intL n) (h := lcTurn tg gt ge (wipeD ρ vs)) fun o ho => h o (mem_ints.mp ho).1 (mem_ints.mp ho).2
  exact ⟨ys, by rw [l, ints_len], hp, ev_lc hi (lenG (by rw [ints_len]; exact hn)) e⟩
section
variable {xs : List Int} {n i : Nat} {w : Int} {ps : List Int} {rs : List Row} {t7 t9 t10 t11 t12 t13 : Option DV}
theorem x_nn (hl : xs.length = 260) (hx : ∀ z ∈ xs, 0 ≤ z ∧ z < 65536) {k : Nat} (h : k < 260) : 0 ≤ xs.getD k 0 ∧ xs.getD k 0 < 65536 := by
  rw [getD_lt (by omega)]
  exact hx _ (List.getElem_mem _)
theorem less3 {y : Int} {w : Int} (hw : 1 ≤ w ∧ w ≤ 5) : ∃ q, 0 ≤ q ∧ q ≤ 6 ∧ dIx (.lst [.int 0, .int 1, .int (w + 1)]) (.int (y % 3)) = .ok (.int q) := by
  have c : y % 3 = 0 ∨ y % 3 = 1 ∨ y % 3 = 2 := by omega
  rcases c with c | c | c <;> rw [c]
  · exact ⟨0, by decide, by decide, rfl⟩
  · exact ⟨1, by decide, by decide, rfl⟩
  · exact ⟨w + 1, by omega, by omega, rfl⟩
theorem prices_ok (hl : xs.length = 260) (hx : ∀ z ∈ xs, 0 ≤ z ∧ z < 65536) (hn : n ≤ 6) (hw : 1 ≤ w ∧ w ≤ 5) : ∃ ps : List Int, ps.length = n ∧ (∀ p ∈ ps, p.natAbs ≤ 20) ∧ (gLc (gRng1 (aCons (gVar 4) aNil)) (gtName 7) gYes (gBin dSub (gBin dMod (gCB dInt (aCons (gBin dIx (gVar 0) (gBin dAdd (gBin dAdd (gVar 1) (gC (.int 2))) (gVar 7))) aNil)) (gBin dAdd (gBin dMul (gC (.int 2)) (gVar 5)) (gC (.int 3)))) (gBin dIx (eLst (aCons (gC (.int 0)) (aCons (gC (.int 1)) (aCons (gBin dAdd (gVar 5) (gC (.int 1))) aNil)))) (gBin dMod (gBin dDiv (gCB dInt (aCons (gBin dIx (gVar 0) (gBin dAdd (gVar 1) (gC (.int 1)))) aNil)) (gC (.int 5))) (gC (.int 3))))) [7]) [some (di xs), some (.int 10), some (.int 6), some (.int 5), some (.int (n : Int)), some (.int w), none, none, none, none, none, none, none, none] = .ok (di ps) := by
  obtain ⟨q, q0, q6, qe⟩ := less3 (y := xs.getD (10 + 1 : Int).toNat 0 / 5) hw
  have ix1 : dIx (di xs) (.int (10 + 1)) = .ok (.int (xs.getD (10 + 1 : Int).toNat 0)) := ixz (by decide) (by rw [hl]; decide)
  refine lc_ints (P := fun p => p.natAbs ≤ 20) (rng_ints (i := (n : Int)) rfl rfl (by omega)) (by omega) fun o o0 on => ?_
  have b := x_nn hl hx (k := (10 + 2 + o).toNat) (by omega)
  have bm : 0 ≤ xs.getD (10 + 2 + o).toNat 0 % (2 * w + 3) ∧ xs.getD (10 + 2 + o).toNat 0 % (2 * w + 3) < 2 * w + 3 := ⟨Int.emod_nonneg _ (by omega), Int.emod_lt_of_pos _ (by omega)⟩
  refine ⟨xs.getD (10 + 2 + o).toNat 0 % (2 * w + 3) - q, by omega, lc_yes (ρ1 := [some (di xs), some (.int 10), some (.int 6), some (.int 5), some (.int (n : Int)), some (.int w), none, some (.int o), none, none, none, none, none, none]) rfl rfl ?_⟩
  have m1 : mulOk 2 w = true := mulT (by decide)
  refine (bin_e ((bin_e ((cb1 ((bin_e rfl ((bin_e ((bin_e rfl rfl).trans dAdd_i) rfl).trans dAdd_i)).trans (ixz (by omega) (by omega)))).trans dInt_i) ((bin_e ((bin_e rfl rfl).trans (dMul_i m1)) rfl).trans dAdd_i)).trans (dMod_i (by omega))) ((bin_e (lst3 rfl rfl ((bin_e rfl rfl).trans dAdd_i)) ((bin_e ((bin_e ((cb1 ((bin_e rfl ((bin_e rfl rfl).trans dAdd_i)).trans ix1)).trans dInt_i) rfl).trans (dDiv_s (by decide) (by decide))) rfl).trans (dMod_i (by decide)))).trans qe)).trans dSub_i
theorem line_ok {d : Int} (hl : xs.length = 260) (hx : ∀ z ∈ xs, 0 ≤ z ∧ z < 65536) (hn : n ≤ 6) (hw : 1 ≤ w ∧ w ≤ 5) (hi : i < 6) : ∃ ls : List Int, ls.length = n ∧ (∀ p ∈ ls, p.natAbs ≤ 10) ∧ (gLc (gRng1 (aCons (gVar 4) aNil)) (gtName 7) gYes (gBin dSub (gBin dMod (gCB dInt (aCons (gBin dAdd (gBin dIx (gVar 0) (gBin dAdd (gBin dAdd (gVar 1) (gC (.int 32))) (gBin dMod (gCB dInt (aCons (gBin dAdd (gBin dMul (gVar 9) (gVar 4)) (gVar 7)) aNil)) (gC (.int 50))))) (gBin dMul (gC (.int 13)) (gVar 9))) aNil)) (gBin dAdd (gVar 5) (gC (.int 2)))) (gBin dMul (gBin dMod (gVar 10) (gC (.int 2))) (gBin dAdd (gC (.int 1)) (gBin dDiv (gVar 5) (gC (.int 2)))))) [7]) [some (di xs), some (.int 10), some (.int 6), some (.int 5), some (.int (n : Int)), some (.int w), some (di ps), t7, some (rsD rs), some (.int ((0 : Int) + (i : Int))), some (.int d), t11, t12, t13] = .ok (di ls) := by
  refine lc_ints (P := fun p => p.natAbs ≤ 10) (rng_ints (i := (n : Int)) rfl rfl (by omega)) (by omega) fun o o0 on => ?_
  have m0 : mulOk ((0 : Int) + (i : Int)) (n : Int) = true := mulT (by omega)
  have cc := Int.mul_nonneg (by omega : (0 : Int) ≤ (0 : Int) + (i : Int)) (by omega : (0 : Int) ≤ (n : Int))
  have b := x_nn hl hx (k := (10 + 32 + (((0 : Int) + (i : Int)) * (n : Int) + o) % 50).toNat) (by omega)
  have bm : 0 ≤ (xs.getD (10 + 32 + (((0 : Int) + (i : Int)) * (n : Int) + o) % 50).toNat 0 + 13 * ((0 : Int) + (i : Int))) % (w + 2) ∧ (xs.getD (10 + 32 + (((0 : Int) + (i : Int)) * (n : Int) + o) % 50).toNat 0 + 13 * ((0 : Int) + (i : Int))) % (w + 2) < w + 2 := ⟨Int.emod_nonneg _ (by omega), Int.emod_lt_of_pos _ (by omega)⟩
  have m2 : mulOk 13 ((0 : Int) + (i : Int)) = true := mulT (by decide)
  have m3 : mulOk (d % 2) (1 + w / 2) = true := mulT (by omega)
  have b3 : 0 ≤ d % 2 * (1 + w / 2) ∧ d % 2 * (1 + w / 2) ≤ 3 := by
    have c : d % 2 = 0 ∨ d % 2 = 1 := by omega
    rcases c with c | c <;> rw [c] <;> omega
  refine ⟨(xs.getD (10 + 32 + (((0 : Int) + (i : Int)) * (n : Int) + o) % 50).toNat 0 + 13 * ((0 : Int) + (i : Int))) % (w + 2) - d % 2 * (1 + w / 2), by omega, lc_yes (ρ1 := [some (di xs), some (.int 10), some (.int 6), some (.int 5), some (.int (n : Int)), some (.int w), some (di ps), some (.int o), some (rsD rs), some (.int ((0 : Int) + (i : Int))), some (.int d), t11, t12, t13]) rfl rfl ?_⟩
  exact (bin_e ((bin_e ((cb1 ((bin_e ((bin_e rfl ((bin_e ((bin_e rfl rfl).trans dAdd_i) ((bin_e ((cb1 ((bin_e ((bin_e rfl rfl).trans (dMul_i m0)) rfl).trans dAdd_i)).trans dInt_i) rfl).trans (dMod_i (by decide)))).trans dAdd_i)).trans (ixz (by omega) (by omega))) ((bin_e rfl rfl).trans (dMul_i m2))).trans dAdd_i)).trans dInt_i) ((bin_e rfl rfl).trans dAdd_i)).trans (dMod_i (by omega))) ((bin_e ((bin_e rfl rfl).trans (dMod_i (by decide))) ((bin_e rfl ((bin_e rfl rfl).trans (dDiv_s (by decide) (by decide)))).trans dAdd_i)).trans (dMul_i m3))).trans dSub_i
theorem tot_ok {ls : List Int} {rel : Option DV} {d : Int} (hl : xs.length = 260) (hx : ∀ z ∈ xs, 0 ≤ z ∧ z < 65536) (hn : n ≤ 6) (ll : ls.length = n) (hb : ∀ p ∈ ls, p.natAbs ≤ 10) : ∃ ts : List Int, ts.length = n ∧ (∀ p ∈ ts, p.natAbs ≤ 10) ∧ (gLc (gRng1 (aCons (gVar 4) aNil)) (gtName 7) gYes (gBin dMul (gBin dIx (gVar 11) (gVar 7)) (gBin dMod (gBin dDiv (gCB dInt (aCons (gBin dIx (gVar 0) (gBin dAdd (gBin dAdd (gVar 1) (gC (.int 2))) (gVar 7))) aNil)) (gC (.int 16))) (gC (.int 2)))) [7]) [some (di xs), some (.int 10), some (.int 6), some (.int 5), some (.int (n : Int)), some (.int w), some (di ps), t7, some (rsD rs), some (.int ((0 : Int) + (i : Int))), some (.int d), some (di ls), rel, t13] = .ok (di ts) := by
  refine lc_ints (P := fun p => p.natAbs ≤ 10) (rng_ints (i := (n : Int)) rfl rfl (by omega)) (by omega) fun o o0 on => ?_
  have lo : (ls.getD o.toNat 0).natAbs ≤ 10 := by
    rw [getD_lt (by omega)]
    exact hb _ (List.getElem_mem _)
  have m1 : mulOk (ls.getD o.toNat 0) (xs.getD (10 + 2 + o).toNat 0 / 16 % 2) = true := mulT (by omega)
  refine ⟨ls.getD o.toNat 0 * (xs.getD (10 + 2 + o).toNat 0 / 16 % 2), ?_, lc_yes (ρ1 := [some (di xs), some (.int 10), some (.int 6), some (.int 5), some (.int (n : Int)), some (.int w), some (di ps), some (.int o), some (rsD rs), some (.int ((0 : Int) + (i : Int))), some (.int d), some (di ls), rel, t13]) rfl rfl ?_⟩
  · have c : xs.getD (10 + 2 + o).toNat 0 / 16 % 2 = 0 ∨ xs.getD (10 + 2 + o).toNat 0 / 16 % 2 = 1 := by omega
    rcases c with c | c <;> rw [c] <;> omega
  · exact (bin_e ((bin_e rfl rfl).trans (ixz o0 (by omega))) ((bin_e ((bin_e ((cb1 ((bin_e rfl ((bin_e ((bin_e rfl rfl).trans dAdd_i) rfl).trans dAdd_i)).trans (ixz (by omega) (by omega)))).trans dInt_i) rfl).trans (dDiv_s (by decide) (by decide))) rfl).trans (dMod_i (by decide)))).trans (dMul_i m1)
theorem rel6 {y : Int} : ∃ r : Str, in3 r ∧ dIx (.lst [.str (Str.ofString "least"), .str (Str.ofString "most"), .str (Str.ofString "least"), .str (Str.ofString "least"), .str (Str.ofString "most"), .str (Str.ofString "equal")]) (.int (y % 6)) = .ok (.str r) := by
  have c : y % 6 = 0 ∨ y % 6 = 1 ∨ y % 6 = 2 ∨ y % 6 = 3 ∨ y % 6 = 4 ∨ y % 6 = 5 := by omega
  rcases c with c | c | c | c | c | c <;> rw [c]
  · exact ⟨_, .inl rfl, rfl⟩
  · exact ⟨_, .inr (.inl rfl), rfl⟩
  · exact ⟨_, .inl rfl, rfl⟩
  · exact ⟨_, .inl rfl, rfl⟩
  · exact ⟨_, .inr (.inl rfl), rfl⟩
  · exact ⟨_, .inr (.inr rfl), rfl⟩
theorem off5 {y : Int} : ∃ q : Int, q.natAbs ≤ 2 ∧ dIx (.lst [.int 0, .int 0, .int 1, .int (-1), .int 2]) (.int (y % 5)) = .ok (.int q) := by
  have c : y % 5 = 0 ∨ y % 5 = 1 ∨ y % 5 = 2 ∨ y % 5 = 3 ∨ y % 5 = 4 := by omega
  rcases c with c | c | c | c | c <;> rw [c]
  · exact ⟨0, by decide, rfl⟩
  · exact ⟨0, by decide, rfl⟩
  · exact ⟨1, by decide, rfl⟩
  · exact ⟨-1, by decide, rfl⟩
  · exact ⟨2, by decide, rfl⟩
def rB2 : GS := (gSeq (gAsg (gPure (gCB dInt (aCons (gBin dIx (gVar 0) (gBin dAdd (gBin dAdd (gVar 1) (gC (.int 21))) (gVar 9))) aNil))) (gtName 10)) (gSeq (gAsg (gPure (gLc (gRng1 (aCons (gVar 4) aNil)) (gtName 7) gYes (gBin dSub (gBin dMod (gCB dInt (aCons (gBin dAdd (gBin dIx (gVar 0) (gBin dAdd (gBin dAdd (gVar 1) (gC (.int 32))) (gBin dMod (gCB dInt (aCons (gBin dAdd (gBin dMul (gVar 9) (gVar 4)) (gVar 7)) aNil)) (gC (.int 50))))) (gBin dMul (gC (.int 13)) (gVar 9))) aNil)) (gBin dAdd (gVar 5) (gC (.int 2)))) (gBin dMul (gBin dMod (gVar 10) (gC (.int 2))) (gBin dAdd (gC (.int 1)) (gBin dDiv (gVar 5) (gC (.int 2)))))) [7])) (gtName 11)) (gSeq (gAsg (gPure (gBin dIx (eLst (aCons (gC (.str (Str.ofString "least"))) (aCons (gC (.str (Str.ofString "most"))) (aCons (gC (.str (Str.ofString "least"))) (aCons (gC (.str (Str.ofString "least"))) (aCons (gC (.str (Str.ofString "most"))) (aCons (gC (.str (Str.ofString "equal"))) aNil))))))) (gBin dMod (gBin dDiv (gVar 10) (gC (.int 2))) (gC (.int 6))))) (gtName 12)) (gSeq (gAsg (gPure (gCB dSum (aCons (gLc (gRng1 (aCons (gVar 4) aNil)) (gtName 7) gYes (gBin dMul (gBin dIx (gVar 11) (gVar 7)) (gBin dMod (gBin dDiv (gCB dInt (aCons (gBin dIx (gVar 0) (gBin dAdd (gBin dAdd (gVar 1) (gC (.int 2))) (gVar 7))) aNil)) (gC (.int 16))) (gC (.int 2)))) [7]) aNil))) (gtName 13)) (gDrop (gApp 8 (gPure (eTup (aCons (gVar 11) (aCons (gVar 12) (aCons (gBin dAdd (gVar 13) (gBin dIx (eLst (aCons (gC (.int 0)) (aCons (gC (.int 0)) (aCons (gC (.int 1)) (aCons (gUn dNeg (gC (.int 1))) (aCons (gC (.int 2)) aNil)))))) (gBin dMod (gBin dDiv (gVar 10) (gC (.int 12))) (gC (.int 5))))) aNil)))))))))))
theorem r_turn (hl : xs.length = 260) (hx : ∀ z ∈ xs, 0 ≤ z ∧ z < 65536) (hn : n ≤ 6) (hw : 1 ≤ w ∧ w ≤ 5) (hi : i < 6) (lr : rs.length ≤ 6) : ∃ (r : Row) (u7 u10 u11 u12 u13 : Option DV), rB2 [some (di xs), some (.int 10), some (.int 6), some (.int 5), some (.int (n : Int)), some (.int w), some (di ps), t7, some (rsD rs), some (.int ((0 : Int) + (i : Int))), t10, t11, t12, t13] = .nx [some (di xs), some (.int 10), some (.int 6), some (.int 5), some (.int (n : Int)), some (.int w), some (di ps), u7, some (rsD (rs ++ [r])), some (.int ((0 : Int) + (i : Int))), u10, u11, u12, u13] ∧ Gr n r := by
  have ix : dIx (di xs) (.int (10 + 21 + ((0 : Int) + (i : Int)))) = .ok (.int (xs.getD (10 + 21 + ((0 : Int) + (i : Int))).toNat 0)) := ixz (by omega) (by omega)
  generalize xs.getD (10 + 21 + ((0 : Int) + (i : Int))).toNat 0 = d at ix
  have s0 : (gAsg (gPure (gCB dInt (aCons (gBin dIx (gVar 0) (gBin dAdd (gBin dAdd (gVar 1) (gC (.int 21))) (gVar 9))) aNil))) (gtName 10)) [some (di xs), some (.int 10), some (.int 6), some (.int 5), some (.int (n : Int)), some (.int w), some (di ps), t7, some (rsD rs), some (.int ((0 : Int) + (i : Int))), t10, t11, t12, t13] = .nx [some (di xs), some (.int 10), some (.int 6), some (.int 5), some (.int (n : Int)), some (.int w), some (di ps), t7, some (rsD rs), some (.int ((0 : Int) + (i : Int))), some (.int d), t11, t12, t13] := set_e ((cb1 ((bin_e rfl ((bin_e ((bin_e rfl rfl).trans dAdd_i) rfl).trans dAdd_i)).trans ix)).trans dInt_i)
  obtain ⟨ls, ll, lb, k1⟩ := line_ok (d := d) (ps := ps) (rs := rs) (t7 := t7) (t11 := t11) (t12 := t12) (t13 := t13) hl hx hn hw hi
  have s1 : (gAsg (gPure (gLc (gRng1 (aCons (gVar 4) aNil)) (gtName 7) gYes (gBin dSub (gBin dMod (gCB dInt (aCons (gBin dAdd (gBin dIx (gVar 0) (gBin dAdd (gBin dAdd (gVar 1) (gC (.int 32))) (gBin dMod (gCB dInt (aCons (gBin dAdd (gBin dMul (gVar 9) (gVar 4)) (gVar 7)) aNil)) (gC (.int 50))))) (gBin dMul (gC (.int 13)) (gVar 9))) aNil)) (gBin dAdd (gVar 5) (gC (.int 2)))) (gBin dMul (gBin dMod (gVar 10) (gC (.int 2))) (gBin dAdd (gC (.int 1)) (gBin dDiv (gVar 5) (gC (.int 2)))))) [7])) (gtName 11)) [some (di xs), some (.int 10), some (.int 6), some (.int 5), some (.int (n : Int)), some (.int w), some (di ps), t7, some (rsD rs), some (.int ((0 : Int) + (i : Int))), some (.int d), t11, t12, t13] = .nx [some (di xs), some (.int 10), some (.int 6), some (.int 5), some (.int (n : Int)), some (.int w), some (di ps), t7, some (rsD rs), some (.int ((0 : Int) + (i : Int))), some (.int d), some (di ls), t12, t13] := set_e k1
  obtain ⟨r, hr, k2⟩ := rel6 (y := d / 2)
  have s2 : (gAsg (gPure (gBin dIx (eLst (aCons (gC (.str (Str.ofString "least"))) (aCons (gC (.str (Str.ofString "most"))) (aCons (gC (.str (Str.ofString "least"))) (aCons (gC (.str (Str.ofString "least"))) (aCons (gC (.str (Str.ofString "most"))) (aCons (gC (.str (Str.ofString "equal"))) aNil))))))) (gBin dMod (gBin dDiv (gVar 10) (gC (.int 2))) (gC (.int 6))))) (gtName 12)) [some (di xs), some (.int 10), some (.int 6), some (.int 5), some (.int (n : Int)), some (.int w), some (di ps), t7, some (rsD rs), some (.int ((0 : Int) + (i : Int))), some (.int d), some (di ls), t12, t13] = .nx [some (di xs), some (.int 10), some (.int 6), some (.int 5), some (.int (n : Int)), some (.int w), some (di ps), t7, some (rsD rs), some (.int ((0 : Int) + (i : Int))), some (.int d), some (di ls), some (.str r), t13] := set_e ((bin_e (x := .lst [.str (Str.ofString "least"), .str (Str.ofString "most"), .str (Str.ofString "least"), .str (Str.ofString "least"), .str (Str.ofString "most"), .str (Str.ofString "equal")]) rfl ((bin_e ((bin_e rfl rfl).trans (dDiv_s (by decide) (by decide))) rfl).trans (dMod_i (by decide)))).trans k2)
  obtain ⟨ts, tl, tb, k3⟩ := tot_ok (i := i) (w := w) (ps := ps) (rs := rs) (t7 := t7) (t13 := t13) (ls := ls) (rel := some (.str r)) (d := d) hl hx hn ll lb
  have s3 : (gAsg (gPure (gCB dSum (aCons (gLc (gRng1 (aCons (gVar 4) aNil)) (gtName 7) gYes (gBin dMul (gBin dIx (gVar 11) (gVar 7)) (gBin dMod (gBin dDiv (gCB dInt (aCons (gBin dIx (gVar 0) (gBin dAdd (gBin dAdd (gVar 1) (gC (.int 2))) (gVar 7))) aNil)) (gC (.int 16))) (gC (.int 2)))) [7]) aNil))) (gtName 13)) [some (di xs), some (.int 10), some (.int 6), some (.int 5), some (.int (n : Int)), some (.int w), some (di ps), t7, some (rsD rs), some (.int ((0 : Int) + (i : Int))), some (.int d), some (di ls), some (.str r), t13] = .nx [some (di xs), some (.int 10), some (.int 6), some (.int 5), some (.int (n : Int)), some (.int w), some (di ps), t7, some (rsD rs), some (.int ((0 : Int) + (i : Int))), some (.int d), some (di ls), some (.str r), some (.int ts.sum)] := set_e ((cb1 k3).trans dSum_i)
  have sb := sum_bd (b := 10) tb
  obtain ⟨q, qb, k4⟩ := off5 (y := d / 12)
  refine ⟨⟨ls, r, ts.sum + q⟩, t7, some (.int d), some (di ls), some (.str r), some (.int ts.sum), ?_, ll, fun x hx => by have := lb x hx; omega, by show (ts.sum + q).natAbs ≤ 100; have := Nat.mul_le_mul_left 10 (by omega : ts.length ≤ 6); omega, hr⟩
  unfold rB2
  rw [ev_seq s0, ev_seq s1, ev_seq s2, ev_seq s3]
  exact app_g (g := rowD) (xs := rs) (x := ⟨ls, r, ts.sum + q⟩) rfl (tup3 rfl rfl ((bin_e rfl ((bin_e (x := .lst [.int 0, .int 0, .int 1, .int (-1), .int 2]) rfl ((bin_e ((bin_e rfl rfl).trans (dDiv_s (by decide) (by decide))) rfl).trans (dMod_i (by decide)))).trans k4)).trans dAdd_i)) (by omega)
end
theorem prog_ok {xs : List Int} (hl : xs.length = 260) (hx : ∀ z ∈ xs, 0 ≤ z ∧ z < 65536) : ∃ (n : Nat) (ps : List Int) (rs : List Row), m__law_program [di xs, .int 10, .int 6, .int 5] = .ok (.tup [.int (n : Int), di ps, rsD rs]) ∧ 1 ≤ n ∧ n ≤ 6 ∧ ps.length = n ∧ (∀ p ∈ ps, p.natAbs ≤ 20) ∧ rs.length ≤ 5 ∧ ∀ r ∈ rs, Gr n r := by
  have st : startD 14 [di xs, .int 10, .int 6, .int 5] = [some (di xs), some (.int 10), some (.int 6), some (.int 5), none, none, none, none, none, none, none, none, none, none] := rfl
  obtain ⟨n, en⟩ : ∃ n : Nat, 1 + xs.getD (10 : Int).toNat 0 % 6 = (n : Int) := ⟨(1 + xs.getD (10 : Int).toNat 0 % 6).toNat, by omega⟩
  obtain ⟨w, ew⟩ : ∃ w : Int, 1 + xs.getD (10 + 1 : Int).toNat 0 % 5 = w := ⟨_, rfl⟩
  obtain ⟨c, ec⟩ : ∃ c : Nat, xs.getD (10 + 20 : Int).toNat 0 % 6 = (c : Int) := ⟨(xs.getD (10 + 20 : Int).toNat 0 % 6).toNat, by omega⟩
  have ix0 : dIx (di xs) (.int 10) = .ok (.int (xs.getD (10 : Int).toNat 0)) := ixz (by decide) (by rw [hl]; decide)
  have ix1 : dIx (di xs) (.int (10 + 1)) = .ok (.int (xs.getD (10 + 1 : Int).toNat 0)) := ixz (by decide) (by rw [hl]; decide)
  have ix2 : dIx (di xs) (.int (10 + 20)) = .ok (.int (xs.getD (10 + 20 : Int).toNat 0)) := ixz (by decide) (by rw [hl]; decide)
  have s0 : (gAsg (gPure (gBin dAdd (gC (.int 1)) (gBin dMod (gCB dInt (aCons (gBin dIx (gVar 0) (gVar 1)) aNil)) (gVar 2)))) (gtName 4)) [some (di xs), some (.int 10), some (.int 6), some (.int 5), none, none, none, none, none, none, none, none, none, none] = .nx [some (di xs), some (.int 10), some (.int 6), some (.int 5), some (.int (n : Int)), none, none, none, none, none, none, none, none, none] := by rw [← en]; exact set_e ((bin_e rfl ((bin_e ((cb1 ((bin_e rfl rfl).trans ix0)).trans dInt_i) rfl).trans (dMod_i (by decide)))).trans dAdd_i)
  have s1 : (gAsg (gPure (gBin dAdd (gC (.int 1)) (gBin dMod (gCB dInt (aCons (gBin dIx (gVar 0) (gBin dAdd (gVar 1) (gC (.int 1)))) aNil)) (gC (.int 5))))) (gtName 5)) [some (di xs), some (.int 10), some (.int 6), some (.int 5), some (.int (n : Int)), none, none, none, none, none, none, none, none, none] = .nx [some (di xs), some (.int 10), some (.int 6), some (.int 5), some (.int (n : Int)), some (.int w), none, none, none, none, none, none, none, none] := by rw [← ew]; exact set_e ((bin_e rfl ((bin_e ((cb1 ((bin_e rfl ((bin_e rfl rfl).trans dAdd_i)).trans ix1)).trans dInt_i) rfl).trans (dMod_i (by decide)))).trans dAdd_i)
  obtain ⟨ps, pl, pb, k2⟩ := prices_ok (n := n) (w := w) hl hx (by omega) (by omega)
  have s2 : (gAsg (gPure (gLc (gRng1 (aCons (gVar 4) aNil)) (gtName 7) gYes (gBin dSub (gBin dMod (gCB dInt (aCons (gBin dIx (gVar 0) (gBin dAdd (gBin dAdd (gVar 1) (gC (.int 2))) (gVar 7))) aNil)) (gBin dAdd (gBin dMul (gC (.int 2)) (gVar 5)) (gC (.int 3)))) (gBin dIx (eLst (aCons (gC (.int 0)) (aCons (gC (.int 1)) (aCons (gBin dAdd (gVar 5) (gC (.int 1))) aNil)))) (gBin dMod (gBin dDiv (gCB dInt (aCons (gBin dIx (gVar 0) (gBin dAdd (gVar 1) (gC (.int 1)))) aNil)) (gC (.int 5))) (gC (.int 3))))) [7])) (gtName 6)) [some (di xs), some (.int 10), some (.int 6), some (.int 5), some (.int (n : Int)), some (.int w), none, none, none, none, none, none, none, none] = .nx [some (di xs), some (.int 10), some (.int 6), some (.int 5), some (.int (n : Int)), some (.int w), some (di ps), none, none, none, none, none, none, none] := set_e k2
  have s3 : (gAsg (gPure (eLst aNil)) (gtName 8)) [some (di xs), some (.int 10), some (.int 6), some (.int 5), some (.int (n : Int)), some (.int w), some (di ps), none, none, none, none, none, none, none] = .nx [some (di xs), some (.int 10), some (.int 6), some (.int 5), some (.int (n : Int)), some (.int w), some (di ps), none, some (rsD []), none, none, none, none, none] := rfl
  obtain ⟨ρ', f1, rs, t7, t9, t10, t11, t12, t13, e4, lr, hg⟩ := forG_rngB (tg := gtName 9) (b := rB2) c (fun i ρ => ∃ (rs : List Row) (t7 t9 t10 t11 t12 t13 : Option DV), ρ = [some (di xs), some (.int 10), some (.int 6), some (.int 5), some (.int (n : Int)), some (.int w), some (di ps), t7, some (rsD rs), t9, t10, t11, t12, t13] ∧ rs.length = i ∧ ∀ r ∈ rs, Gr n r) (fun i ρ hi h => by
    obtain ⟨rs, t7, t9, t10, t11, t12, t13, rfl, lr, hg⟩ := h
    obtain ⟨r, u7, u10, u11, u12, u13, k, gr⟩ := r_turn (ps := ps) (t7 := t7) (t10 := t10) (t11 := t11) (t12 := t12) (t13 := t13) hl hx (by omega : n ≤ 6) (by omega : 1 ≤ w ∧ w ≤ 5) (by omega : i < 6) (by omega : rs.length ≤ 6)
    refine ⟨_, _, rfl, k, _, _, _, _, _, _, _, rfl, by rw [List.length_append, lr]; rfl, fun x hx => ?_⟩
    rcases List.mem_append.mp hx with z | z
    · exact hg x z
    · rw [List.mem_singleton.mp z]; exact gr) c 0 [some (di xs), some (.int 10), some (.int 6), some (.int 5), some (.int (n : Int)), some (.int w), some (di ps), none, some (rsD []), none, none, none, none, none] (by omega) ⟨[], _, _, _, _, _, _, rfl, rfl, fun r hr => (by cases hr)⟩
  rw [Nat.zero_add] at lr
  have s4 : gFor (gRng1 (aCons (gBin dMod (gCB dInt (aCons (gBin dIx (gVar 0) (gBin dAdd (gVar 1) (gC (.int 20)))) aNil)) (gBin dAdd (gVar 3) (gC (.int 1)))) aNil)) (gtName 9) rB2 [some (di xs), some (.int 10), some (.int 6), some (.int 5), some (.int (n : Int)), some (.int w), some (di ps), none, some (rsD []), none, none, none, none, none] = .nx ρ' := ev_for (rng1_e (i := (c : Int)) (by rw [← ec]; exact (bin_e ((cb1 ((bin_e rfl ((bin_e rfl rfl).trans dAdd_i)).trans ix2)).trans dInt_i) ((bin_e rfl rfl).trans dAdd_i)).trans (dMod_i (by decide))) rfl (by omega)) (by rw [rngD_eq]; exact f1)
  refine ⟨n, ps, rs, ?_, by omega, by omega, pl, pb, by omega, hg⟩
  unfold m__law_program runB b__law_program
  rw [st, ev_seq s0, ev_seq s1, ev_seq s2, ev_seq s3]
  show finB (gSeq (gFor _ _ rB2) _ _) = _
  rw [ev_seq s4, e4, ev_ret (xtup3 (a := gPure (gVar 4)) (b := gPure (gVar 6)) (c := gMove 8) (pure_e rfl) (pure_e rfl) rfl)]
  rfl
end M
end

/-! text B3 -/
section
set_option maxRecDepth 100000
set_option maxHeartbeats 4000000
namespace M
open PySem DL
theorem isum_app {xs ys : List Int} : isum (xs ++ ys) = isum xs + isum ys := by
  induction xs with
  | nil => rw [List.nil_append]; show _ = 0 + _; omega
  | cons x xs ih => rw [List.cons_append, isum_cons, isum_cons, ih]; omega
/-! numbers in twelfths, in lowest terms -/
def Cn (x : Int × Int) (N : Int) : Prop := Rp 12 x N ∧ gi x.1 x.2 = 1
theorem cn_eq {x y : Int × Int} {N : Int} (hx : Cn x N) (hy : Cn y N) : x = y := by
  obtain ⟨⟨x1, x2⟩, x3⟩ := hx
  obtain ⟨⟨y1, y2⟩, y3⟩ := hy
  have e : x.1 * y.2 = y.1 * x.2 := by
    have a1 : x.1 * y.2 * 12 = N * x.2 * y.2 := by rw [← x1]; grind
    have a2 : y.1 * x.2 * 12 = N * x.2 * y.2 := by
      have : y.1 * x.2 * 12 = y.1 * 12 * x.2 := by grind
      rw [this, y1]
      grind
    omega
  have cx : Nat.Coprime x.2.natAbs x.1.natAbs := by rw [Nat.coprime_comm]; exact Int.ofNat.inj x3
  have cy : Nat.Coprime y.2.natAbs y.1.natAbs := by rw [Nat.coprime_comm]; exact Int.ofNat.inj y3
  have ea : x.1.natAbs * y.2.natAbs = y.1.natAbs * x.2.natAbs := by rw [← Int.natAbs_mul, ← Int.natAbs_mul, e]
  have d1 : x.2.natAbs ∣ y.2.natAbs := cx.dvd_of_dvd_mul_left ⟨y.1.natAbs, by rw [ea, Nat.mul_comm]⟩
  have d2 : y.2.natAbs ∣ x.2.natAbs := cy.dvd_of_dvd_mul_left ⟨x.1.natAbs, by rw [← ea, Nat.mul_comm]⟩
  have d := Nat.dvd_antisymm d1 d2
  have e2 : x.2 = y.2 := by omega
  rw [e2] at e
  exact Prod.ext (Int.eq_of_mul_eq_mul_right (by omega) e) e2
theorem Cn.sm {x : Int × Int} {N : Int} (h : Cn x N) (hN : N.natAbs ≤ 1000000) : x.1.natAbs ≤ 1000000 ∧ x.2 ≤ 12 ∧ 0 < x.2 := by
  have z := rp_small h.1 h.2
  exact ⟨by omega, z.2, h.1.2⟩
theorem Cn.gd {x : Int × Int} {N : Int} (h : Cn x N) (hN : N.natAbs ≤ 1000000) : Gd x := by
  have z := h.sm hN
  have a : (1000000 : Nat) < 2 ^ 301 := Nat.lt_of_lt_of_le (by decide : 1000000 < 2 ^ 20) (Nat.pow_le_pow_right (by decide) (by decide))
  have b : (12 : Nat) < 2 ^ 251 := Nat.lt_of_lt_of_le (by decide : 12 < 2 ^ 20) (Nat.pow_le_pow_right (by decide) (by decide))
  exact ⟨by omega, by omega, z.2.2⟩
theorem cn_fp {x y : Int × Int} {M N : Int} (hx : Cn x M) (hy : Cn y N) : Cn (fp x y) (M + N) := ⟨fp_rp hx.1 hy.1, gi_low (Int.mul_ne_zero (by have := hx.1.2; omega) (by have := hy.1.2; omega))⟩
theorem cn_int {p : Int} : Cn (p, 1) (12 * p) := ⟨⟨by show p * 12 = 12 * p * 1; omega, by show (0 : Int) < 1; decide⟩, by unfold gi; simp⟩
theorem cn_neg {x : Int × Int} {N : Int} (h : Cn x N) : Cn (-x.1, x.2) (-N) := by
  obtain ⟨⟨h1, h2⟩, h3⟩ := h
  refine ⟨⟨?_, h2⟩, ?_⟩
  · show -x.1 * 12 = -N * x.2
    rw [Int.neg_mul, Int.neg_mul, h1]
  · have e : gi (-x.1) x.2 = gi x.1 x.2 := by unfold gi; rw [Int.natAbs_neg]
    show gi (-x.1) x.2 = 1
    rw [e, h3]
theorem cn_pos {x : Int × Int} {N : Int} (h : Cn x N) : (0 < x.1 ↔ 0 < N) ∧ (x.1 < 0 ↔ N < 0) := by
  obtain ⟨⟨h1, h2⟩, _⟩ := h
  have a : 0 < N → 0 < N * x.2 := fun z => Int.mul_pos z h2
  have b : N < 0 → N * x.2 < 0 := fun z => Int.mul_neg_of_neg_of_pos z h2
  have c : N = 0 → N * x.2 = 0 := fun z => by rw [z]; omega
  constructor <;> constructor <;> intro z
  · refine Classical.byContradiction fun q => ?_
    rcases (by omega : N < 0 ∨ N = 0) with w | w
    · have := b w; omega
    · have := c w; omega
  · have := a z; omega
  · refine Classical.byContradiction fun q => ?_
    rcases (by omega : 0 < N ∨ N = 0) with w | w
    · have := a w; omega
    · have := c w; omega
  · have := b z; omega
theorem plus_s {x y : Int × Int} (hx : Gd x) (hy : Gd y) : m_plus [pr x, pr y] = .ok (pr (fp x y)) ∧ m__law_plus [pr x, pr y] = .ok (pr (fp x y)) := by
  have n0 : x.2 * y.2 ≠ 0 := Int.mul_ne_zero (by have := hx.2.2; omega) (by have := hy.2.2; omega)
  have a : (x.2 * y.2).natAbs < 2 ^ 1999 := by
    rw [Int.natAbs_mul]
    have a : x.2.natAbs * y.2.natAbs < 2 ^ 251 * 2 ^ 251 := Nat.mul_lt_mul'' hx.2.1 hy.2.1
    rw [← Nat.pow_add] at a
    exact Nat.lt_of_lt_of_le a (Nat.pow_le_pow_right (by decide) (by decide))
  rw [plus_e hx.sm hy.sm, lplus_e hx.sm hy.sm]
  exact ⟨fraction_ok n0 (den9 a), lowest_ok n0 a⟩
theorem minus_s {x y : Int × Int} (hx : Gd x) (hy : Gd y) : m_minus [pr x, pr y] = .ok (pr (fp x (-y.1, y.2))) := by
  have n0 : x.2 * y.2 ≠ 0 := Int.mul_ne_zero (by have := hx.2.2; omega) (by have := hy.2.2; omega)
  have a : (x.2 * y.2).natAbs < 2 ^ 1999 := by
    rw [Int.natAbs_mul]
    have a : x.2.natAbs * y.2.natAbs < 2 ^ 251 * 2 ^ 251 := Nat.mul_lt_mul'' hx.2.1 hy.2.1
    rw [← Nat.pow_add] at a
    exact Nat.lt_of_lt_of_le a (Nat.pow_le_pow_right (by decide) (by decide))
  rw [minus_e hx.sm hy.sm, fraction_ok n0 (den9 a)]
  have e : x.1 * y.2 - y.1 * x.2 = x.1 * y.2 + -y.1 * x.2 := by rw [Int.neg_mul]; omega
  rw [e]
  rfl
/-! fixings -/
abbrev Fx := List (Option Int)
def fD : Option Int → DV
  | none => .non
  | some b => .int b
abbrev fxD (fx : Fx) : DV := .lst (fx.map fD)
def FxG (fx : Fx) : Prop := ∀ f ∈ fx, f = none ∨ f = some 0 ∨ f = some 1
theorem eq_fD {f : Option Int} {z : Int} : dEq (fD f) (.int z) = .ok (.bl (decide (f = some z))) := by
  cases f with
  | none =>
    have e : eqv .non (.int z) = false := by unfold eqv; simp [py, PyData.eqv]
    show (if (true && true) = true then Rs.ok (DV.bl (eqv .non (.int z))) else .stuck) = _
    rw [e]
    rfl
  | some b =>
    show dEq (.int b) (.int z) = _
    rw [dEq_i]
    congr 2
    exact decide_eq_decide.mpr ⟨fun h => by rw [h], fun h => by cases h; rfl⟩
theorem isN_fD {f : Option Int} : dIsN (fD f) .non = .ok (.bl (!f.isSome)) := by cases f <;> rfl
def pvF (f : Option Int) (R : Int) : Int := match f with
  | none => if R < 0 then R else 0
  | some b => if b = 1 then R else 0
def partP (f : Option Int) (r : Int × Int) : Int × Int := match f with
  | none => if 0 < r.1 then (0, 1) else r
  | some b => if b = 1 then r else (0, 1)
theorem cn_zero : Cn (0, 1) 0 := ⟨⟨by decide, by decide⟩, by decide⟩
theorem part_cn {f : Option Int} {r : Int × Int} {R : Int} (h : Cn r R) : Cn (partP f r) (pvF f R) := by
  have ps := cn_pos h
  unfold partP pvF
  cases f with
  | none =>
    dsimp only
    by_cases c : 0 < r.1
    · rw [if_pos c, if_neg (by have := ps.1.mp c; omega)]
      exact cn_zero
    · rw [if_neg c]
      by_cases d : R < 0
      · rw [if_pos d]; exact h
      · have e : R = 0 := by
          refine Classical.byContradiction fun q => c (ps.1.mpr (by omega))
        rw [if_neg d]
        rw [e] at h
        exact h
  | some b =>
    dsimp only
    by_cases c : b = 1
    · rw [if_pos c, if_pos c]; exact h
    · rw [if_neg c, if_neg c]; exact cn_zero
theorem least_ok {p : Int} {l : Int × Int} {f : Option Int} (hp : Gd (p, 1)) (hl : Gd l) (hf : f = none ∨ f = some 0 ∨ f = some 1) : m_least_part [.int p, pr l, fD f] = .ok (pr (partP f (fp (p, 1) (-l.1, l.2)))) := by
  have st : startD 4 [.int p, pr l, fD f] = [some (.int p), some (pr l), some (fD f), none] := rfl
  have s0 : (gAsg (gPure (gCB m_minus (aCons (eTup (aCons (gVar 0) (aCons (gC (.int 1)) aNil))) (aCons (gVar 1) aNil)))) (gtName 3)) [some (.int p), some (pr l), some (fD f), none] = .nx [some (.int p), some (pr l), some (fD f), some (pr (fp (p, 1) (-l.1, l.2)))] := set_e ((cb2 (tup2 rfl rfl) rfl).trans (minus_s hp hl))
  generalize fp (p, 1) (-l.1, l.2) = r at s0
  have t1 : (gB (gBin dEq (gVar 2) (gC (.int 1)))) [some (.int p), some (pr l), some (fD f), some (pr r)] = .ok (decide (f = some 1)) := b_e ((bin_e rfl rfl).trans eq_fD)
  have t2 : (gOr (gB (gBin dEq (gVar 2) (gC (.int 0)))) (gB (gBin dGt (gBin dIx (gVar 3) (gC (.int 0))) (gC (.int 0))))) [some (.int p), some (pr l), some (fD f), some (pr r)] = .ok (decide (f = some 0) || decide (0 < r.1)) := or_e (b_e ((bin_e rfl rfl).trans eq_fD)) (b_e ((bin_e ((bin_e rfl rfl).trans ix0) rfl).trans dGt_i))
  unfold m_least_part runB b_least_part partP
  rw [st, ev_seq s0]
  rcases hf with hf | hf | hf <;> subst hf
  · rw [ev_skip t1]
    by_cases c : 0 < r.1
    · rw [decide_eq_true c] at t2
      rw [ev_stop t2 (ret_e rfl)]
      dsimp only
      rw [if_pos c]
      rfl
    · rw [decide_eq_false c] at t2
      rw [ev_skip t2, ret_e rfl]
      dsimp only
      rw [if_neg c]
      rfl
  · rw [ev_skip t1, ev_stop t2 (ret_e rfl)]
    rfl
  · rw [ev_stop t1 (ret_e rfl)]
    rfl
/-! the value of a bound -/
def Rv (qs : List Int) (rs : List Row) (ws : List (Int × Int)) (j : Nat) : Int := 12 * qs.getD j 0 - S (col rs j) ws
def pvJ (qs : List Int) (rs : List Row) (fx : Fx) (ws : List (Int × Int)) (j : Nat) : Int := pvF (fx.getD j none) (Rv qs rs ws j)
def BV (qs : List Int) (rs : List Row) (fx : Fx) (ws : List (Int × Int)) : Int := S (bnds rs) ws + isum ((List.range qs.length).map (pvJ qs rs fx ws))
def rest (qs : List Int) (rs : List Row) (ws : List (Int × Int)) (j : Nat) : Int × Int := fp (qs.getD j 0, 1) (-(wsum (col rs j) ws).1, (wsum (col rs j) ws).2)
structure Bd (ps : List Int) (rs : List Row) (fx : Fx) (ws : List (Int × Int)) : Prop where
  n1 : 1 ≤ ps.length
  n6 : ps.length ≤ 6
  g : ∀ r ∈ rs, Gr ps.length r
  r5 : rs.length ≤ 5
  fl : fx.length = ps.length
  fg : FxG fx
  w : ∀ w ∈ ws, Wt w
section
variable {ps qs : List Int} {rs : List Row} {fx : Fx} {ws : List (Int × Int)}
theorem S_bd {ns : List Int} (hn : ∀ n ∈ ns, n.natAbs ≤ 100) (hw : ∀ w ∈ ws, Wt w) (hl : ns.length ≤ 5) : (S ns ws).natAbs ≤ 72000 := by
  have a := S_le (ns := ns) hn hw
  have := Nat.mul_le_mul_left 14400 hl
  omega
theorem ld_cn {ns : List Int} (hn : ∀ n ∈ ns, n.natAbs ≤ 100) (hw : ∀ w ∈ ws, Wt w) : Cn (wsum ns ws) (S ns ws) := ⟨wsum_rp hw, (wsum_red hn hw).1⟩
theorem rest_cn (h : Bd ps rs fx ws) (j : Nat) : Cn (rest qs rs ws j) (Rv qs rs ws j) := by
  have a := cn_fp (cn_int (p := qs.getD j 0)) (cn_neg (ld_cn (ns := col rs j) (col_le h.g) h.w))
  have e : 12 * qs.getD j 0 + -S (col rs j) ws = Rv qs rs ws j := by unfold Rv; omega
  rw [e] at a
  exact a
theorem getD_bd (hq : ∀ q ∈ qs, q.natAbs ≤ 20) (j : Nat) : (qs.getD j 0).natAbs ≤ 20 := by
  by_cases c : j < qs.length
  · rw [getD_lt c]; exact hq _ (List.getElem_mem c)
  · rw [List.getD_eq_getElem?_getD, List.getElem?_eq_none (by omega)]; decide
theorem Rv_bd (h : Bd ps rs fx ws) (hq : ∀ q ∈ qs, q.natAbs ≤ 20) (j : Nat) : (Rv qs rs ws j).natAbs ≤ 73000 := by
  have a := S_bd (ns := col rs j) (col_le h.g) h.w (by unfold col; rw [List.length_map]; exact h.r5)
  have b := getD_bd hq j
  unfold Rv
  omega
theorem pv_bd (h : Bd ps rs fx ws) (hq : ∀ q ∈ qs, q.natAbs ≤ 20) (j : Nat) : (pvJ qs rs fx ws j).natAbs ≤ 73000 := by
  have a := Rv_bd h hq j
  unfold pvJ pvF
  split <;> split <;> omega
theorem sum_n (m : Nat) {f : Nat → Int} (hf : ∀ j, (f j).natAbs ≤ 73000) : (isum ((List.range m).map f)).natAbs ≤ 73000 * m := by
  induction m with
  | zero => exact Nat.le_refl _
  | succ m ih =>
    rw [List.range_succ, List.map_append, isum_app, List.map_singleton]
    have e : isum [f m] = f m + 0 := rfl
    rw [e]
    have := hf m
    omega
theorem part_sum (h : Bd ps rs fx ws) (hq : ∀ q ∈ qs, q.natAbs ≤ 20) {m : Nat} (hm : m ≤ 6) : (S (bnds rs) ws + isum ((List.range m).map (pvJ qs rs fx ws))).natAbs ≤ 1000000 := by
  have a := S_bd (ns := bnds rs) (bnds_le h.g) h.w (by unfold bnds; rw [List.length_map]; exact h.r5)
  have b := sum_n m (f := pvJ qs rs fx ws) fun j => pv_bd h hq j
  have := Nat.mul_le_mul_left 73000 hm
  omega
theorem int_gd {q : Int} (h : q.natAbs ≤ 1000) : Gd (q, 1) := (cn_int (p := q)).gd (by omega)
theorem zipL (hl : qs.length = ps.length) (h : Bd ps rs fx ws) : zipD3 (qs.map DV.int) ((due ps.length rs ws).map pr) (fx.map fD) = (List.range ps.length).map fun j => DV.tup [.int (qs.getD j 0), pr (wsum (col rs j) ws), fD (fx.getD j none)] := by
  have fl := h.fl
  have dl : (due ps.length rs ws).length = ps.length := by unfold due; rw [List.length_map, List.length_range]
  unfold zipD3
  refine List.ext_getElem (by rw [List.length_map, List.length_zip, List.length_zip, List.length_map, List.length_map, List.length_map, List.length_map, List.length_range]; omega) fun i a b => ?_
  rw [List.length_map, List.length_range] at b
  rw [List.getElem_map, List.getElem_map, List.getElem_range, List.getElem_zip, List.getElem_zip]
  dsimp only
  rw [List.getElem_map, List.getElem_map, List.getElem_map, getD_lt (by omega), getD_lt (by omega)]
  have e : (due ps.length rs ws)[i]'(by omega) = wsum (col rs i) ws := by
    unfold due
    rw [List.getElem_map, List.getElem_range]
  rw [e]
theorem fx_at (h : Bd ps rs fx ws) (j : Nat) : fx.getD j none = none ∨ fx.getD j none = some 0 ∨ fx.getD j none = some 1 := by
  by_cases c : j < fx.length
  · rw [getD_lt c]; exact h.fg _ (List.getElem_mem c)
  · rw [List.getD_eq_getElem?_getD, List.getElem?_eq_none (by omega)]; exact .inl rfl
theorem bound_ok (h : Bd ps rs fx ws) (e : ws.length = rs.length) (hl : qs.length = ps.length) (hq : ∀ q ∈ qs, q.natAbs ≤ 20) : ∃ x, m_bound_of [prg ps rs, di qs, fxD fx, dp ws] = .ok (pr x) ∧ Cn x (BV qs rs fx ws) := by
  have n6 := h.n6
  have r5 := h.r5
  have st : startD 8 [prg ps rs, di qs, fxD fx, dp ws] = [some (prg ps rs), some (di qs), some (fxD fx), some (dp ws), none, none, none, none] := rfl
  have dl : (due ps.length rs ws).length = ps.length := by unfold due; rw [List.length_map, List.length_range]
  have fl := h.fl
  have gz : (gZip3 (aCons (gVar 1) (aCons (gCB m_loads (aCons (gVar 0) (aCons (gVar 3) aNil))) (aCons (gVar 2) aNil)))) [some (prg ps rs), some (di qs), some (fxD fx), some (dp ws), none, none, none, none] = .ok ((List.range ps.length).map fun j => DV.tup [.int (qs.getD j 0), pr (wsum (col rs j) ws), fD (fx.getD j none)]) := by
    have a : (aCons (gVar 1) (aCons (gCB m_loads (aCons (gVar 0) (aCons (gVar 3) aNil))) (aCons (gVar 2) aNil))) [some (prg ps rs), some (di qs), some (fxD fx), some (dp ws), none, none, none, none] = .ok [di qs, dp (due ps.length rs ws), fxD fx] := by
      rw [ev_cons, show gVar 1 _ = .ok (di qs) from rfl, ev_cons, (cb2 rfl rfl).trans (loads_ok h.g h.w (by omega) (by omega) e), ev_cons]
      rfl
    unfold gZip3
    rw [a, bind_ok]
    show (if (qs.map DV.int).length = ((due ps.length rs ws).map pr).length ∧ (qs.map DV.int).length = (fx.map fD).length then Rs.ok (zipD3 (qs.map DV.int) ((due ps.length rs ws).map pr) (fx.map fD)) else .stuck) = _
    rw [if_pos (by rw [List.length_map, List.length_map, List.length_map]; omega), zipL hl h]
  have k : (gLc (gZip3 (aCons (gVar 1) (aCons (gCB m_loads (aCons (gVar 0) (aCons (gVar 3) aNil))) (aCons (gVar 2) aNil)))) (gtTup [5, 6, 7]) gYes (gNX (gCB m_least_part (aCons (gVar 5) (aCons (gVar 6) (aCons (gVar 7) aNil))))) [5, 6, 7]) [some (prg ps rs), some (di qs), some (fxD fx), some (dp ws), none, none, none, none] = .ok (dp ((List.range ps.length).map fun j => partP (fx.getD j none) (rest qs rs ws j))) := by
    unfold dp
    rw [List.map_map]
    refine ev_lc gz (lenG (by rw [List.length_range]; omega)) (lcLoop_gen (g := fun j : Nat => DV.tup [.int (qs.getD j 0), pr (wsum (col rs j) ws), fD (fx.getD j none)]) fun j _ => lc_yes (ρ1 := [some (prg ps rs), some (di qs), some (fxD fx), some (dp ws), none, some (.int (qs.getD j 0)), some (pr (wsum (col rs j) ws)), some (fD (fx.getD j none))]) rfl rfl (nx_e ((cb3 rfl rfl rfl).trans (least_ok (int_gd (by have := getD_bd hq j; omega)) ((ld_cn (ns := col rs j) (col_le h.g) h.w).gd (by have := S_bd (ns := col rs j) (col_le h.g) h.w (by unfold col; rw [List.length_map]; exact h.r5); omega)) (fx_at h j)))))
  have pc : ∀ j, Cn (partP (fx.getD j none) (rest qs rs ws j)) (pvJ qs rs fx ws j) := fun j => part_cn (rest_cn h j)
  have ad := added_ok (zs := (List.range ps.length).map fun j => partP (fx.getD j none) (rest qs rs ws j)) (fun z hz => by
    obtain ⟨j, _, rfl⟩ := List.mem_map.mp hz
    exact (pc j).gd (by have := pv_bd h hq (qs := qs) j; omega)) (by rw [List.length_map, List.length_range]; omega)
  have ac : Cn (asum (0, 1) ((List.range ps.length).map fun j => partP (fx.getD j none) (rest qs rs ws j))) (isum ((List.range ps.length).map (pvJ qs rs fx ws))) := by
    have a := asum_rp (D := 12) (as := List.range ps.length) (x := (0, 1)) (M := 0) (f := fun j => partP (fx.getD j none) (rest qs rs ws j)) (n := pvJ qs rs fx ws) (fun j _ => (pc j).1) ⟨by decide, by decide⟩
    rw [Int.zero_add] at a
    exact ⟨a, (asum_red (fun z hz => by
      obtain ⟨j, _, rfl⟩ := List.mem_map.mp hz
      exact (pc j).1.2) ⟨by decide, by decide⟩).1⟩
  have gc := ld_cn (ns := bnds rs) (bnds_le h.g) h.w
  have sb := S_bd (ns := bnds rs) (bnds_le h.g) h.w (by unfold bnds; rw [List.length_map]; exact h.r5)
  have ib := sum_n ps.length (f := pvJ qs rs fx ws) fun j => pv_bd h hq j
  have nb := Nat.mul_le_mul_left 73000 n6
  refine ⟨_, ?_, by unfold BV; rw [hl]; exact cn_fp gc ac⟩
  unfold m_bound_of runB b_bound_of
  rw [st, ev_seq (set_e k), ret_e ((cb2 ((cb2 rfl rfl).trans (gain_ok h.g h.w (by omega) e)) ((cb1 rfl).trans ad.1)).trans (plus_s (gc.gd (by omega)) (ac.gd (by omega))).1)]
  rfl
/-! the law's own -/
def lbB : GS := (gSeq (gAsg (gPure (gCB m__law_weighted (aCons (gLc (gSeqI (gVar 1)) (gtName 5) gYes (gBin dIx (gBin dIx (gVar 5) (gC (.int 0))) (gVar 6)) [5]) (aCons (gVar 3) aNil)))) (gtName 7)) (gSeq (gAsg (gPure (gCB m__law_plus (aCons (eTup (aCons (gBin dIx (gVar 0) (gVar 6)) (aCons (gC (.int 1)) aNil))) (aCons (eTup (aCons (gUn dNeg (gBin dIx (gVar 7) (gC (.int 0)))) (aCons (gBin dIx (gVar 7) (gC (.int 1))) aNil))) aNil)))) (gtName 8)) (gIfS (gOr (gB (gBin dEq (gBin dIx (gVar 2) (gVar 6)) (gC (.int 1)))) (gAnd (gB (gBin dIsN (gBin dIx (gVar 2) (gVar 6)) (gC .non))) (gB (gBin dLt (gBin dIx (gVar 8) (gC (.int 0))) (gC (.int 0)))))) (gAsg (gPure (gCB m__law_plus (aCons (gVar 4) (aCons (gVar 8) aNil)))) (gtName 4)) gNext)))
theorem lb_turn {j : Nat} {x : Int × Int} {t7 t8 : Option DV} (h : Bd ps rs fx ws) (e : ws.length = rs.length) (hl : qs.length = ps.length) (hq : ∀ q ∈ qs, q.natAbs ≤ 20) (hj : j < ps.length) (hx : Cn x (S (bnds rs) ws + isum ((List.range j).map (pvJ qs rs fx ws)))) : ∃ y u7 u8, lbB [some (di qs), some (rsD rs), some (fxD fx), some (dp ws), some (pr x), none, some (.int ((0 : Int) + (j : Int))), t7, t8] = .nx [some (di qs), some (rsD rs), some (fxD fx), some (dp ws), some (pr y), none, some (.int ((0 : Int) + (j : Int))), u7, u8] ∧ Cn y (S (bnds rs) ws + isum ((List.range (j + 1)).map (pvJ qs rs fx ws))) := by
  have n6 := h.n6
  have fl := h.fl
  have cl : (col rs j).map DV.int = rs.map fun r => DV.int (r.l.getD j 0) := by unfold col; rw [List.map_map]; rfl
  have r5 := h.r5
  have kc : (gLc (gSeqI (gVar 1)) (gtName 5) gYes (gBin dIx (gBin dIx (gVar 5) (gC (.int 0))) (gVar 6)) [5]) [some (di qs), some (rsD rs), some (fxD fx), some (dp ws), some (pr x), none, some (.int ((0 : Int) + (j : Int))), t7, t8] = .ok (di (col rs j)) := by
    unfold di
    rw [cl]
    refine ev_lc (seq_e (f := rowD) (xs := rs) rfl) (lenG (by omega)) (lcLoop_gen (g := rowD) (f := fun r => DV.int (r.l.getD j 0)) fun r hr => lc_yes (ρ1 := [some (di qs), some (rsD rs), some (fxD fx), some (dp ws), some (pr x), some (rowD r), some (.int ((0 : Int) + (j : Int))), t7, t8]) rfl rfl ?_)
    have hj2 : j < r.l.length := by rw [(h.g r hr).1]; exact hj
    refine (bin_e ((bin_e rfl rfl).trans ix3_0) rfl).trans ?_
    rw [dIx_g (g := DV.int) (xs := r.l) (z := 0 + (j : Int)) j (by omega) hj2, getD_lt hj2]
  have s0 : (gAsg (gPure (gCB m__law_weighted (aCons (gLc (gSeqI (gVar 1)) (gtName 5) gYes (gBin dIx (gBin dIx (gVar 5) (gC (.int 0))) (gVar 6)) [5]) (aCons (gVar 3) aNil)))) (gtName 7)) [some (di qs), some (rsD rs), some (fxD fx), some (dp ws), some (pr x), none, some (.int ((0 : Int) + (j : Int))), t7, t8] = .nx [some (di qs), some (rsD rs), some (fxD fx), some (dp ws), some (pr x), none, some (.int ((0 : Int) + (j : Int))), some (pr (wsum (col rs j) ws)), t8] := set_e ((cb2 kc rfl).trans (col_w h.g h.w (by omega) e j).2)
  have ix : dIx (di qs) (.int ((0 : Int) + (j : Int))) = .ok (.int (qs.getD j 0)) := by rw [dIx_g (g := DV.int) j (by omega) (by omega), getD_lt (by omega)]
  have fxg : dIx (fxD fx) (.int ((0 : Int) + (j : Int))) = .ok (fD (fx.getD j none)) := by rw [dIx_g (g := fD) j (by omega) (by omega), getD_lt (by omega)]
  have lc := ld_cn (ns := col rs j) (col_le h.g) h.w
  have sb := S_bd (ns := col rs j) (col_le h.g) h.w (by unfold col; rw [List.length_map]; exact h.r5)
  have s1 : (gAsg (gPure (gCB m__law_plus (aCons (eTup (aCons (gBin dIx (gVar 0) (gVar 6)) (aCons (gC (.int 1)) aNil))) (aCons (eTup (aCons (gUn dNeg (gBin dIx (gVar 7) (gC (.int 0)))) (aCons (gBin dIx (gVar 7) (gC (.int 1))) aNil))) aNil)))) (gtName 8)) [some (di qs), some (rsD rs), some (fxD fx), some (dp ws), some (pr x), none, some (.int ((0 : Int) + (j : Int))), some (pr (wsum (col rs j) ws)), t8] = .nx [some (di qs), some (rsD rs), some (fxD fx), some (dp ws), some (pr x), none, some (.int ((0 : Int) + (j : Int))), some (pr (wsum (col rs j) ws)), some (pr (rest qs rs ws j))] := set_e ((cb2 (tup2 ((bin_e rfl rfl).trans ix) rfl) (tup2 (x := .int (-(wsum (col rs j) ws).1)) (by rfl) ((bin_e rfl rfl).trans ix1))).trans (plus_s (int_gd (q := qs.getD j 0) (by have := getD_bd hq j; omega)) ((cn_neg lc).gd (by omega))).2)
  have rc := rest_cn (qs := qs) h j
  have rb := Rv_bd (qs := qs) h hq j
  have ps1 := cn_pos rc
  have t : (gOr (gB (gBin dEq (gBin dIx (gVar 2) (gVar 6)) (gC (.int 1)))) (gAnd (gB (gBin dIsN (gBin dIx (gVar 2) (gVar 6)) (gC .non))) (gB (gBin dLt (gBin dIx (gVar 8) (gC (.int 0))) (gC (.int 0)))))) [some (di qs), some (rsD rs), some (fxD fx), some (dp ws), some (pr x), none, some (.int ((0 : Int) + (j : Int))), some (pr (wsum (col rs j) ws)), some (pr (rest qs rs ws j))] = .ok (decide (fx.getD j none = some 1) || (!(fx.getD j none).isSome && decide ((rest qs rs ws j).1 < 0))) := or_e (b_e ((bin_e ((bin_e rfl rfl).trans fxg) rfl).trans eq_fD)) (and_e (b_e ((bin_e ((bin_e rfl rfl).trans fxg) rfl).trans isN_fD)) (b_e ((bin_e ((bin_e rfl rfl).trans ix0) rfl).trans dLt_i)))
  have su : isum ((List.range (j + 1)).map (pvJ qs rs fx ws)) = isum ((List.range j).map (pvJ qs rs fx ws)) + pvJ qs rs fx ws j := by
    rw [List.range_succ, List.map_append, isum_app, List.map_singleton]
    show _ + (pvJ qs rs fx ws j + 0) = _
    omega
  have xb := part_sum (qs := qs) h hq (by omega : j ≤ 6)
  rw [su]
  unfold lbB
  rw [ev_seq s0, ev_seq s1, ev_ifS t]
  by_cases c : (decide (fx.getD j none = some 1) || (!(fx.getD j none).isSome && decide ((rest qs rs ws j).1 < 0))) = true
  · have pe : pvJ qs rs fx ws j = Rv qs rs ws j := by
      unfold pvJ pvF
      rcases fx_at h j with f | f | f <;> rw [f] at c ⊢
      · have c : decide ((rest qs rs ws j).1 < 0) = true := by simpa using c
        dsimp only
        rw [if_pos (ps1.2.mp (of_decide_eq_true c))]
      · simp at c
      · rfl
    rw [if_pos c, pe]
    have a := cn_fp hx rc
    refine ⟨fp x (rest qs rs ws j), _, _, set_e ((cb2 rfl rfl).trans (plus_s (hx.gd xb) (rc.gd (by omega))).2), ?_⟩
    rw [← Int.add_assoc]
    exact a
  · have pe : pvJ qs rs fx ws j = 0 := by
      unfold pvJ pvF
      rcases fx_at h j with f | f | f <;> rw [f] at c ⊢
      · have c : ¬ (rest qs rs ws j).1 < 0 := by simpa using c
        dsimp only
        rw [if_neg fun z => c (ps1.2.mpr z)]
      · rfl
      · simp at c
    rw [if_neg c, pe, Int.add_zero]
    exact ⟨x, _, _, rfl, hx⟩
theorem lbound_ok (h : Bd ps rs fx ws) (e : ws.length = rs.length) (hl : qs.length = ps.length) (hq : ∀ q ∈ qs, q.natAbs ≤ 20) : ∃ x, m__law_bound [di qs, rsD rs, fxD fx, dp ws] = .ok (pr x) ∧ Cn x (BV qs rs fx ws) := by
  have n6 := h.n6
  have r5 := h.r5
  have st : startD 9 [di qs, rsD rs, fxD fx, dp ws] = [some (di qs), some (rsD rs), some (fxD fx), some (dp ws), none, none, none, none, none] := rfl
  have cl : (bnds rs).map DV.int = rs.map fun r => DV.int r.b := by unfold bnds; rw [List.map_map]; rfl
  have kb : (gLc (gSeqI (gVar 1)) (gtName 5) gYes (gBin dIx (gVar 5) (gC (.int 2))) [5]) [some (di qs), some (rsD rs), some (fxD fx), some (dp ws), none, none, none, none, none] = .ok (di (bnds rs)) := by
    unfold di
    rw [cl]
    exact ev_lc (seq_e (f := rowD) (xs := rs) rfl) (lenG (by omega)) (lcLoop_gen (g := rowD) (f := fun r => DV.int r.b) fun r hr => lc_yes (ρ1 := [some (di qs), some (rsD rs), some (fxD fx), some (dp ws), none, some (rowD r), none, none, none]) rfl rfl ((bin_e rfl rfl).trans ix3_2))
  have s0 : (gAsg (gPure (gCB m__law_weighted (aCons (gLc (gSeqI (gVar 1)) (gtName 5) gYes (gBin dIx (gVar 5) (gC (.int 2))) [5]) (aCons (gVar 3) aNil)))) (gtName 4)) [some (di qs), some (rsD rs), some (fxD fx), some (dp ws), none, none, none, none, none] = .nx [some (di qs), some (rsD rs), some (fxD fx), some (dp ws), some (pr (wsum (bnds rs) ws)), none, none, none, none] := set_e ((cb2 kb rfl).trans (bnds_w h.g h.w (by omega) e).2)
  have gc := ld_cn (ns := bnds rs) (bnds_le h.g) h.w
  obtain ⟨ρ', f1, x, t6, t7, t8, e1, cx⟩ := forG_rngB (tg := gtName 6) (b := lbB) ps.length (fun j ρ => ∃ (x : Int × Int) (t6 t7 t8 : Option DV), ρ = [some (di qs), some (rsD rs), some (fxD fx), some (dp ws), some (pr x), none, t6, t7, t8] ∧ Cn x (S (bnds rs) ws + isum ((List.range j).map (pvJ qs rs fx ws)))) (fun j ρ hj hh => by
    obtain ⟨x, t6, t7, t8, rfl, cx⟩ := hh
    obtain ⟨y, u7, u8, k, cy⟩ := lb_turn (t7 := t7) (t8 := t8) h e hl hq hj cx
    exact ⟨_, _, rfl, k, y, _, _, _, rfl, cy⟩) ps.length 0 [some (di qs), some (rsD rs), some (fxD fx), some (dp ws), some (pr (wsum (bnds rs) ws)), none, none, none, none] (by omega) ⟨_, _, _, _, rfl, by show Cn _ (S (bnds rs) ws + 0); rw [Int.add_zero]; exact gc⟩
  rw [Nat.zero_add] at cx
  have s1 : gFor (gRng1 (aCons (gCB dLen (aCons (gVar 0) aNil)) aNil)) (gtName 6) lbB [some (di qs), some (rsD rs), some (fxD fx), some (dp ws), some (pr (wsum (bnds rs) ws)), none, none, none, none] = .nx ρ' := ev_for (rng1_e (n := ps.length) (len_e (g := DV.int) (xs := qs) rfl) (by omega) (by omega)) (by rw [rngD_eq]; exact f1)
  refine ⟨x, ?_, by unfold BV; rw [hl]; exact cx⟩
  unfold m__law_bound runB b__law_bound
  rw [st, ev_seq s0]
  show finB (gSeq (gFor _ _ lbB) _ _) = _
  rw [ev_seq s1, e1, ret_e rfl]
  rfl
end
end M
end

/-! text B4 -/
section
set_option maxRecDepth 100000
set_option maxHeartbeats 4000000
namespace M
open PySem DL
theorem dInt_b {b : Bool} : dInt [.bl b] = .ok (.int (if b = true then 1 else 0)) := by cases b <;> rfl
theorem orV_t {a b : GE} {ρ : EnvD} (h : a ρ = .ok (.bl true)) : gOrV a b ρ = .ok (.bl true) := by
  unfold gOrV
  rw [h]
  rfl
theorem orV_f {a b : GE} {ρ : EnvD} (h : a ρ = .ok (.bl false)) : gOrV a b ρ = b ρ := by
  unfold gOrV
  rw [h]
  rfl
theorem andV_t {a b : GE} {ρ : EnvD} (h : a ρ = .ok (.bl true)) : gAndV a b ρ = b ρ := by
  unfold gAndV
  rw [h]
  rfl
theorem andV_f {a b : GE} {ρ : EnvD} (h : a ρ = .ok (.bl false)) : gAndV a b ρ = .ok (.bl false) := by
  unfold gAndV
  rw [h]
  rfl
theorem alike_i : ∀ xs ys : List Int, PySem.W.alikeAll (pys (xs.map DV.int)) (pys (ys.map DV.int)) = true
  | [], ys => by simp [pys, PySem.W.alikeAll]
  | x :: xs, [] => by simp [pys, PySem.W.alikeAll]
  | x :: xs, y :: ys => by
    show PySem.W.alikeAll (py (.int x) :: pys (xs.map DV.int)) (py (.int y) :: pys (ys.map DV.int)) = true
    unfold PySem.W.alikeAll
    rw [alike_i xs ys]
    rfl
def geD (f t : List Int) : Bool := !PySem.W.dataLt (py (di f)) (py (di t))
theorem eqok_di {f : List Int} : eqok (di f) 20 = true := eqoks_i f
theorem alike_di {f t : List Int} : PySem.W.alike (py (di f)) (py (di t)) = true := by
  show PySem.W.alike (.list (pys (f.map DV.int))) (.list (pys (t.map DV.int))) = true
  unfold PySem.W.alike
  exact alike_i f t
theorem ge_di {f t : List Int} : dGeD (di f) (di t) = .ok (.bl (geD f t)) := by
  have q : ordOk (di f) (di t) = true := by
    unfold ordOk
    rw [eqok_di, eqok_di, alike_di]
    rfl
  show (if ordOk (di f) (di t) = true then _ else _) = _
  rw [if_pos q]
  rfl
theorem meth_prices {ps : List Int} {rs : List Row} {ρ : EnvD} {i : Nat} (e : lk ρ i = .ok (prg ps rs)) : gMeth "Program" "prices" m_Program_prices (gVar i) aNil ρ = .ok (di ps) := by
  unfold gMeth
  rw [ev_var, e]
  show (if ("Program" : Str) = "Program" ∧ ("prices" : Str) ∉ (["_prices", "_rows"] : List Str) then _ else _) = _
  rw [if_pos (by decide)]
  have st : startD 1 [prg ps rs] = [some (prg ps rs)] := rfl
  show runB b_Program_prices 1 [prg ps rs] = _
  unfold runB b_Program_prices
  rw [st, ret_e ((cb1 (fld_prices rfl)).trans rfl)]
  rfl
def ceilV (x : Int × Int) : Int := -((-x.1) / x.2)
theorem ceil_ok {x : Int × Int} (h : 0 < x.2) (hb : x.2 ≤ 12) : m_ceiling [pr x] = .ok (.int (ceilV x)) := by
  have st : startD 1 [pr x] = [some (pr x)] := rfl
  have d : dDiv (.int (-x.1)) (.int x.2) = .ok (.int (-x.1 / x.2)) := dDiv_s h (by omega)
  have a : (gUn dNeg (gBin dDiv (gUn dNeg (gBin dIx (gVar 0) (gC (.int 0)))) (gBin dIx (gVar 0) (gC (.int 1))))) [some (pr x)] = .ok (.int (ceilV x)) := by
    have b : gBin dDiv (gUn dNeg (gBin dIx (gVar 0) (gC (.int 0)))) (gBin dIx (gVar 0) (gC (.int 1))) [some (pr x)] = .ok (.int (-x.1 / x.2)) := (bin_e (x := .int (-x.1)) (by rfl) ((bin_e rfl rfl).trans ix1)).trans d
    rw [ev_un, b]
    rfl
  unfold m_ceiling runB b_ceiling
  rw [st, ret_e a]
  rfl
def bitV (f : Option Int) : Int := if f = some 1 then 1 else 0
def firstL (fx : Fx) : List Int := fx.map bitV
section
variable {ps qs : List Int} {rs : List Row} {fx : Fx} {ws : List (Int × Int)} {v : Int} {told : List Int}
theorem chkP_ok (h : ps.length ≤ 16) : m_check_program [prg ps rs] = .ok .non := by
  have st : startD 1 [prg ps rs] = [some (prg ps rs)] := rfl
  have t : (gB (gBin dGt (gNX (gMeth "Program" "count" m_Program_count (gVar 0) aNil)) (gC (.int 16)))) [some (prg ps rs)] = .ok false := by
    rw [b_e ((bin_e (nx_e (meth_count rfl)) rfl).trans dGt_i), decide_eq_false (by omega)]
  unfold m_check_program runB b_check_program
  rw [st, ev_ifS t]
  rfl
theorem chkF_ok (h : Bd ps rs fx ws) : m_check_fixing [prg ps rs, fxD fx] = .ok .non := by
  have n6 := h.n6
  have fl := h.fl
  have st : startD 3 [prg ps rs, fxD fx] = [some (prg ps rs), some (fxD fx), none] := rfl
  have s0 : (gDrop (gPure (gCB m_check_program (aCons (gVar 0) aNil)))) [some (prg ps rs), some (fxD fx), none] = .nx [some (prg ps rs), some (fxD fx), none] := drop_e ((cb1 rfl).trans (chkP_ok (by omega)))
  have t1 : (gB (gBin dNe (gCB dLen (aCons (gVar 1) aNil)) (gNX (gMeth "Program" "count" m_Program_count (gVar 0) aNil)))) [some (prg ps rs), some (fxD fx), none] = .ok false := by
    rw [ne_e (len_e (g := fD) (xs := fx) rfl) (nx_e (meth_count rfl)), decide_eq_true (by omega)]
    rfl
  obtain ⟨ρ', f1, t2, e1⟩ := forG_rngB (tg := gtName 2) (b := (gIfS (gAnd (gB (gBin dNotN (gBin dIx (gVar 1) (gVar 2)) (gC .non))) (gNot (gB (gChain dLe dLe (gC (.int 0)) (gBin dIx (gVar 1) (gVar 2)) (gC (.int 1)))))) (gRaise "BadFixing" (aCons (gVar 2) aNil)) gNext)) fx.length (fun _ ρ => ∃ t2 : Option DV, ρ = [some (prg ps rs), some (fxD fx), t2]) (fun i ρ hi hh => by
    obtain ⟨t2, rfl⟩ := hh
    have g : dIx (fxD fx) (.int ((0 : Int) + (i : Int))) = .ok (fD fx[i]) := dIx_g (g := fD) i (by omega) hi
    have gf := h.fg _ (List.getElem_mem hi)
    generalize fx[i] = f at g gf
    have t : (gAnd (gB (gBin dNotN (gBin dIx (gVar 1) (gVar 2)) (gC .non))) (gNot (gB (gChain dLe dLe (gC (.int 0)) (gBin dIx (gVar 1) (gVar 2)) (gC (.int 1)))))) [some (prg ps rs), some (fxD fx), some (.int ((0 : Int) + (i : Int)))] = .ok false := by
      have n : gB (gBin dNotN (gBin dIx (gVar 1) (gVar 2)) (gC .non)) [some (prg ps rs), some (fxD fx), some (.int ((0 : Int) + (i : Int)))] = .ok f.isSome := b_e ((bin_e ((bin_e rfl rfl).trans g) rfl).trans (by cases f <;> rfl))
      rcases gf with q | q | q <;> subst q
      · exact and_f n
      · exact and_t n ((not_e (b_e (chain_le rfl ((bin_e rfl rfl).trans g) rfl))).trans rfl)
      · exact and_t n ((not_e (b_e (chain_le rfl ((bin_e rfl rfl).trans g) rfl))).trans rfl)
    exact ⟨_, _, rfl, (ev_ifS t).trans rfl, _, rfl⟩) fx.length 0 [some (prg ps rs), some (fxD fx), none] (by omega) ⟨_, rfl⟩
  have s2 : (gFor (gRng1 (aCons (gCB dLen (aCons (gVar 1) aNil)) aNil)) (gtName 2) (gIfS (gAnd (gB (gBin dNotN (gBin dIx (gVar 1) (gVar 2)) (gC .non))) (gNot (gB (gChain dLe dLe (gC (.int 0)) (gBin dIx (gVar 1) (gVar 2)) (gC (.int 1)))))) (gRaise "BadFixing" (aCons (gVar 2) aNil)) gNext)) [some (prg ps rs), some (fxD fx), none] = .nx ρ' := ev_for (rng1_e (len_e (g := fD) (xs := fx) rfl) rfl (by omega)) (by rw [rngD_eq]; exact f1)
  unfold m_check_fixing runB b_check_fixing
  rw [st, ev_seq s0, ev_skip t1, s2]
  rfl
theorem case_ok (h : Bd ps rs fx ws) (e : ws.length = rs.length) (hq : ∀ q ∈ ps, q.natAbs ≤ 20) : ∃ x, m_case_bound [prg ps rs, fxD fx, dp ws] = .ok (pr x) ∧ Cn x (BV ps rs fx ws) := by
  obtain ⟨x, e1, c⟩ := bound_ok h e rfl hq
  have st : startD 3 [prg ps rs, fxD fx, dp ws] = [some (prg ps rs), some (fxD fx), some (dp ws)] := rfl
  have s0 : (gDrop (gPure (gCB m_check_fixing (aCons (gVar 0) (aCons (gVar 1) aNil))))) [some (prg ps rs), some (fxD fx), some (dp ws)] = .nx [some (prg ps rs), some (fxD fx), some (dp ws)] := drop_e ((cb2 rfl rfl).trans (chkF_ok h))
  refine ⟨x, ?_, c⟩
  unfold m_case_bound runB b_case_bound
  rw [st, ev_seq s0, ret_e ((cb4 rfl (nx_e (meth_prices rfl)) rfl rfl).trans e1)]
  rfl
def zer (n : Nat) : List Int := List.replicate n 0
theorem zer_le {n : Nat} : ∀ q ∈ zer n, q.natAbs ≤ 20 := fun q hq => by
  rw [(List.mem_replicate.mp hq).2]
  decide
theorem zer_len {n : Nat} : (zer n).length = n := List.length_replicate ..
theorem BV_bd (h : Bd ps rs fx ws) (hl : qs.length = ps.length) (hq : ∀ q ∈ qs, q.natAbs ≤ 20) : (BV qs rs fx ws).natAbs ≤ 1000000 := part_sum h hq (by rw [hl]; exact h.n6)
theorem cn_zero_sm : Sm ((0 : Int), (1 : Int)) := (cn_zero.gd (by decide)).sm
theorem snone_ok (h : Bd ps rs fx ws) (e : ws.length = rs.length) : m_shows_none [prg ps rs, fxD fx, dp ws] = .ok (.bl (fitB rs ws && decide (0 < BV (zer ps.length) rs fx ws))) := by
  obtain ⟨x, e1, c⟩ := bound_ok (qs := zer ps.length) h e zer_len zer_le
  have r5 := h.r5
  have n6 := h.n6
  have st : startD 3 [prg ps rs, fxD fx, dp ws] = [some (prg ps rs), some (fxD fx), some (dp ws)] := rfl
  have s0 : (gDrop (gPure (gCB m_check_fixing (aCons (gVar 0) (aCons (gVar 1) aNil))))) [some (prg ps rs), some (fxD fx), some (dp ws)] = .nx [some (prg ps rs), some (fxD fx), some (dp ws)] := drop_e ((cb2 rfl rfl).trans (chkF_ok h))
  have t : (gNot (gB (gNX (gCB m_are_fit (aCons (gVar 0) (aCons (gVar 2) aNil)))))) [some (prg ps rs), some (fxD fx), some (dp ws)] = .ok (!fitB rs ws) := not_e (b_e (nx_e ((cb2 rfl rfl).trans (arefit_ok h.g (by omega) e))))
  unfold m_shows_none runB b_shows_none
  rw [st, ev_seq s0]
  cases hf : fitB rs ws with
  | false => rw [hf] at t; rw [ev_stop t (ret_e rfl)]; rfl
  | true =>
    rw [hf] at t
    have xb := c.gd (BV_bd h zer_len zer_le)
    have le : decide ((0 : Int) * x.2 < x.1 * 1) = decide (0 < BV (zer ps.length) rs fx ws) := decide_eq_decide.mpr (by
      have := (cn_pos c).1
      rw [Int.zero_mul, Int.mul_one]
      exact this)
    rw [ev_skip t, ret_e (nx_e ((cb2 rfl (nx_e ((cb4 rfl ((bin_e (one_e (g := DV.int) (x := 0) rfl) (nx_e (meth_count rfl))).trans (rep_g rfl (by omega))) rfl rfl).trans e1))).trans (less_e (x := (0, 1)) (y := x) cn_zero_sm xb.sm)))]
    show Rs.ok (DV.bl (decide ((0 : Int) * x.2 < x.1 * 1))) = _
    rw [le]
    rfl
theorem snone_no (h : Bd ps rs fx ws) (e : ws.length ≠ rs.length) : m_shows_none [prg ps rs, fxD fx, dp ws] = .ok (.bl false) := by
  have r5 := h.r5
  have st : startD 3 [prg ps rs, fxD fx, dp ws] = [some (prg ps rs), some (fxD fx), some (dp ws)] := rfl
  have s0 : (gDrop (gPure (gCB m_check_fixing (aCons (gVar 0) (aCons (gVar 1) aNil))))) [some (prg ps rs), some (fxD fx), some (dp ws)] = .nx [some (prg ps rs), some (fxD fx), some (dp ws)] := drop_e ((cb2 rfl rfl).trans (chkF_ok h))
  have t : (gNot (gB (gNX (gCB m_are_fit (aCons (gVar 0) (aCons (gVar 2) aNil)))))) [some (prg ps rs), some (fxD fx), some (dp ws)] = .ok true := not_e (b_e (nx_e ((cb2 rfl rfl).trans (arefit_no (by omega) e))))
  unfold m_shows_none runB b_shows_none
  rw [st, ev_seq s0, ev_stop t (ret_e rfl)]
  rfl
theorem lsnone_ok (h : Bd ps rs fx ws) (e : ws.length = rs.length) : m__law_shows_none [di ps, rsD rs, fxD fx, dp ws] = .ok (.bl (fitB rs ws && decide (0 < BV (zer ps.length) rs fx ws))) := by
  obtain ⟨x, e1, c⟩ := lbound_ok (qs := zer ps.length) h e zer_len zer_le
  have r5 := h.r5
  have n6 := h.n6
  have st : startD 4 [di ps, rsD rs, fxD fx, dp ws] = [some (di ps), some (rsD rs), some (fxD fx), some (dp ws)] := rfl
  have a : (gCB m__law_fit (aCons (gVar 1) (aCons (gVar 3) aNil))) [some (di ps), some (rsD rs), some (fxD fx), some (dp ws)] = .ok (.bl (fitB rs ws)) := (cb2 rfl rfl).trans (lfit_ok h.g (by omega) e)
  have b : (gBin dGt (gBin dIx (gCB m__law_bound (aCons (gBin dRep (eLst (aCons (gC (.int 0)) aNil)) (gCB dLen (aCons (gVar 0) aNil))) (aCons (gVar 1) (aCons (gVar 2) (aCons (gVar 3) aNil))))) (gC (.int 0))) (gC (.int 0))) [some (di ps), some (rsD rs), some (fxD fx), some (dp ws)] = .ok (.bl (decide (0 < BV (zer ps.length) rs fx ws))) := by
    refine (bin_e ((bin_e ((cb4 ((bin_e (one_e (g := DV.int) (x := 0) rfl) (len_e (g := DV.int) (xs := ps) rfl)).trans (rep_g rfl (by omega))) rfl rfl rfl).trans e1) rfl).trans ix0) rfl).trans (dGt_i.trans ?_)
    rw [decide_eq_decide.mpr (cn_pos c).1]
  unfold m__law_shows_none runB b__law_shows_none
  rw [st]
  cases hf : fitB rs ws with
  | false => rw [hf] at a; rw [ret_e (andV_f a)]; rfl
  | true => rw [hf] at a; rw [ret_e ((andV_t a).trans b)]; rfl
/-! closes -/
def clB (v : Int) (told : List Int) (fx : Fx) (x : Int × Int) : Bool := decide (v < ceilV x) || (decide (ceilV x = v) && geD (firstL fx) told)
theorem first_ok (h : Bd ps rs fx ws) : m_first_list [fxD fx] = .ok (di (firstL fx)) := by
  have n6 := h.n6
  have fl := h.fl
  have st : startD 2 [fxD fx] = [some (fxD fx), none] := rfl
  have k : (gLc (gSeqI (gVar 0)) (gtName 1) gYes (gIf (gB (gBin dIsN (gVar 1) (gC .non))) (gC (.int 0)) (gVar 1)) [1]) [some (fxD fx), none] = .ok (di (firstL fx)) := by
    unfold di firstL
    rw [List.map_map]
    refine ev_lc (seq_e (f := fD) (xs := fx) rfl) (lenG (by omega)) (lcLoop_gen (g := fD) fun f hf => lc_yes (ρ1 := [some (fxD fx), some (fD f)]) rfl rfl ?_)
    have t : gB (gBin dIsN (gVar 1) (gC .non)) [some (fxD fx), some (fD f)] = .ok (!f.isSome) := b_e ((bin_e rfl rfl).trans isN_fD)
    rw [if_t t]
    rcases h.fg f hf with q | q | q <;> subst q <;> rfl
  unfold m_first_list runB b_first_list
  rw [st, ret_e k]
  rfl
theorem cl_tail {x : Int × Int} {ρ : EnvD} {g5 g3 g4 gf : GE} (h5 : g5 ρ = .ok (.int (ceilV x))) (h3 : g3 ρ = .ok (.int v)) (h4 : g4 ρ = .ok (di told)) (hf : gf ρ = .ok (di (firstL fx))) : gOrV (gBin dGt g5 g3) (gAndV (gBin dEq g5 g3) (gBin dGeD gf g4)) ρ = .ok (.bl (clB v told fx x)) := by
  have a : gBin dGt g5 g3 ρ = .ok (.bl (decide (v < ceilV x))) := (bin_e h5 h3).trans dGt_i
  have b : gBin dEq g5 g3 ρ = .ok (.bl (decide (ceilV x = v))) := (bin_e h5 h3).trans dEq_i
  have c : gBin dGeD gf g4 ρ = .ok (.bl (geD (firstL fx) told)) := (bin_e hf h4).trans ge_di
  unfold clB
  cases h1 : decide (v < ceilV x) with
  | true => rw [h1] at a; exact orV_t a
  | false =>
    rw [h1] at a
    rw [orV_f a, Bool.false_or]
    cases h2 : decide (ceilV x = v) with
    | false => rw [h2] at b; exact andV_f b
    | true => rw [h2] at b; rw [andV_t b, Bool.true_and]; exact c
theorem closes_ok (h : Bd ps rs fx ws) (e : ws.length = rs.length) (hq : ∀ q ∈ ps, q.natAbs ≤ 20) : ∃ x, Cn x (BV ps rs fx ws) ∧ m_closes [prg ps rs, fxD fx, dp ws, .int v, di told] = .ok (.bl (fitB rs ws && clB v told fx x)) := by
  obtain ⟨x, e1, c⟩ := bound_ok h e rfl hq
  have r5 := h.r5
  have xs := c.sm (BV_bd h rfl hq)
  have st : startD 6 [prg ps rs, fxD fx, dp ws, .int v, di told] = [some (prg ps rs), some (fxD fx), some (dp ws), some (.int v), some (di told), none] := rfl
  have s0 : (gDrop (gPure (gCB m_check_fixing (aCons (gVar 0) (aCons (gVar 1) aNil))))) [some (prg ps rs), some (fxD fx), some (dp ws), some (.int v), some (di told), none] = .nx [some (prg ps rs), some (fxD fx), some (dp ws), some (.int v), some (di told), none] := drop_e ((cb2 rfl rfl).trans (chkF_ok h))
  have t : (gNot (gB (gNX (gCB m_are_fit (aCons (gVar 0) (aCons (gVar 2) aNil)))))) [some (prg ps rs), some (fxD fx), some (dp ws), some (.int v), some (di told), none] = .ok (!fitB rs ws) := not_e (b_e (nx_e ((cb2 rfl rfl).trans (arefit_ok h.g (by omega) e))))
  refine ⟨x, c, ?_⟩
  unfold m_closes runB b_closes
  rw [st, ev_seq s0]
  cases hf : fitB rs ws with
  | false => rw [hf] at t; rw [ev_stop t (ret_e rfl)]; rfl
  | true =>
    rw [hf] at t
    have s2 : (gAsg (gPure (gNX (gCB m_ceiling (aCons (gNX (gCB m_bound_of (aCons (gVar 0) (aCons (gNX (gMeth "Program" "prices" m_Program_prices (gVar 0) aNil)) (aCons (gVar 1) (aCons (gVar 2) aNil)))))) aNil)))) (gtName 5)) [some (prg ps rs), some (fxD fx), some (dp ws), some (.int v), some (di told), none] = .nx [some (prg ps rs), some (fxD fx), some (dp ws), some (.int v), some (di told), some (.int (ceilV x))] := set_e (nx_e ((cb1 (nx_e ((cb4 rfl (nx_e (meth_prices rfl)) rfl rfl).trans e1))).trans (ceil_ok xs.2.2 xs.2.1)))
    rw [ev_skip t, ev_seq s2, ret_e (cl_tail (x := x) (fx := fx) (told := told) (v := v) rfl rfl rfl (nx_e ((cb1 rfl).trans (first_ok h))))]
    rfl
theorem closes_no (h : Bd ps rs fx ws) (e : ws.length ≠ rs.length) : m_closes [prg ps rs, fxD fx, dp ws, .int v, di told] = .ok (.bl false) := by
  have r5 := h.r5
  have st : startD 6 [prg ps rs, fxD fx, dp ws, .int v, di told] = [some (prg ps rs), some (fxD fx), some (dp ws), some (.int v), some (di told), none] := rfl
  have s0 : (gDrop (gPure (gCB m_check_fixing (aCons (gVar 0) (aCons (gVar 1) aNil))))) [some (prg ps rs), some (fxD fx), some (dp ws), some (.int v), some (di told), none] = .nx [some (prg ps rs), some (fxD fx), some (dp ws), some (.int v), some (di told), none] := drop_e ((cb2 rfl rfl).trans (chkF_ok h))
  have t : (gNot (gB (gNX (gCB m_are_fit (aCons (gVar 0) (aCons (gVar 2) aNil)))))) [some (prg ps rs), some (fxD fx), some (dp ws), some (.int v), some (di told), none] = .ok true := not_e (b_e (nx_e ((cb2 rfl rfl).trans (arefit_no (by omega) e))))
  unfold m_closes runB b_closes
  rw [st, ev_seq s0, ev_stop t (ret_e rfl)]
  rfl
theorem lcloses_ok (h : Bd ps rs fx ws) (e : ws.length = rs.length) (hq : ∀ q ∈ ps, q.natAbs ≤ 20) : ∃ x, Cn x (BV ps rs fx ws) ∧ m__law_closes [di ps, rsD rs, fxD fx, dp ws, .int v, di told] = .ok (.bl (fitB rs ws && clB v told fx x)) := by
  obtain ⟨x, e1, c⟩ := lbound_ok h e rfl hq
  have r5 := h.r5
  have n6 := h.n6
  have fl := h.fl
  have xs := c.sm (BV_bd h rfl hq)
  have st : startD 10 [di ps, rsD rs, fxD fx, dp ws, .int v, di told] = [some (di ps), some (rsD rs), some (fxD fx), some (dp ws), some (.int v), some (di told), none, none, none, none] := rfl
  have t : (gNot (gB (gCB m__law_fit (aCons (gVar 1) (aCons (gVar 3) aNil))))) [some (di ps), some (rsD rs), some (fxD fx), some (dp ws), some (.int v), some (di told), none, none, none, none] = .ok (!fitB rs ws) := not_e (b_e ((cb2 rfl rfl).trans (lfit_ok h.g (by omega) e)))
  refine ⟨x, c, ?_⟩
  unfold m__law_closes runB b__law_closes
  rw [st]
  cases hf : fitB rs ws with
  | false => rw [hf] at t; rw [ev_stop t (ret_e rfl)]; rfl
  | true =>
    rw [hf] at t
    have s1 : (gAsg (gPure (gCB m__law_bound (aCons (gVar 0) (aCons (gVar 1) (aCons (gVar 2) (aCons (gVar 3) aNil)))))) (gtName 6)) [some (di ps), some (rsD rs), some (fxD fx), some (dp ws), some (.int v), some (di told), none, none, none, none] = .nx [some (di ps), some (rsD rs), some (fxD fx), some (dp ws), some (.int v), some (di told), some (pr x), none, none, none] := set_e ((cb4 rfl rfl rfl rfl).trans e1)
    have d : dDiv (.int (-x.1)) (.int x.2) = .ok (.int (-x.1 / x.2)) := dDiv_s xs.2.2 (by omega)
    have s2 : (gAsg (gPure (gUn dNeg (gBin dDiv (gUn dNeg (gBin dIx (gVar 6) (gC (.int 0)))) (gBin dIx (gVar 6) (gC (.int 1)))))) (gtName 7)) [some (di ps), some (rsD rs), some (fxD fx), some (dp ws), some (.int v), some (di told), some (pr x), none, none, none] = .nx [some (di ps), some (rsD rs), some (fxD fx), some (dp ws), some (.int v), some (di told), some (pr x), some (.int (ceilV x)), none, none] := set_e (by
      have b : gBin dDiv (gUn dNeg (gBin dIx (gVar 6) (gC (.int 0)))) (gBin dIx (gVar 6) (gC (.int 1))) [some (di ps), some (rsD rs), some (fxD fx), some (dp ws), some (.int v), some (di told), some (pr x), none, none, none] = .ok (.int (-x.1 / x.2)) := (bin_e (x := .int (-x.1)) (by rfl) ((bin_e rfl rfl).trans ix1)).trans d
      rw [ev_un, b]
      rfl)
    have s3 : (gAsg (gPure (gLc (gSeqI (gVar 2)) (gtName 9) gYes (gCB dInt (aCons (gBin dEq (gVar 9) (gC (.int 1))) aNil)) [9])) (gtName 8)) [some (di ps), some (rsD rs), some (fxD fx), some (dp ws), some (.int v), some (di told), some (pr x), some (.int (ceilV x)), none, none] = .nx [some (di ps), some (rsD rs), some (fxD fx), some (dp ws), some (.int v), some (di told), some (pr x), some (.int (ceilV x)), some (di (firstL fx)), none] := set_e (by
      unfold di firstL
      rw [List.map_map]
      exact ev_lc (seq_e (f := fD) (xs := fx) rfl) (lenG (by omega)) (lcLoop_gen (g := fD) fun f hf => lc_yes (ρ1 := [some (di ps), some (rsD rs), some (fxD fx), some (dp ws), some (.int v), some (di told), some (pr x), some (.int (ceilV x)), none, some (fD f)]) rfl rfl ((cb1 ((bin_e rfl rfl).trans eq_fD)).trans (dInt_b.trans (by
        show Rs.ok (DV.int (if decide (f = some 1) = true then 1 else 0)) = .ok (.int (bitV f))
        unfold bitV
        by_cases q : f = some 1
        · rw [decide_eq_true q, if_pos rfl, if_pos q]
        · rw [decide_eq_false q, if_neg Bool.false_ne_true, if_neg q]))))) 
    rw [ev_skip t, ev_seq s1, ev_seq s2, ev_seq s3, ret_e (cl_tail (x := x) (fx := fx) (told := told) (v := v) rfl rfl rfl rfl)]
    rfl
end
end M
end

/-! text B5 -/
section
set_option maxRecDepth 100000
set_option maxHeartbeats 4000000
namespace M
open PySem DL
theorem for_any {α : Type} {g : α → DV} {tg : GG} {b : GS} {I : EnvD → Prop} {p : α → Bool} : ∀ {xs : List α} {ρ : EnvD}, I ρ → (∀ x ∈ xs, ∀ ρ, I ρ → ∃ ρ1, tg (g x) ρ = .ok ρ1 ∧ (p x = false → ∃ ρ2, b ρ1 = .nx ρ2 ∧ I ρ2) ∧ (p x = true → ∃ ρ2, b ρ1 = .rt (.bl false) ρ2)) →
    (xs.any p = false → ∃ ρ2, forG tg b (xs.map g) ρ = .nx ρ2 ∧ I ρ2) ∧ (xs.any p = true → ∃ ρ2, forG tg b (xs.map g) ρ = .rt (.bl false) ρ2)
  | [], ρ, hi, _ => ⟨fun _ => ⟨ρ, rfl, hi⟩, fun h => by simp at h⟩
  | x :: xs, ρ, hi, h => by
    obtain ⟨ρ1, e1, h1, h2⟩ := h x List.mem_cons_self ρ hi
    rw [List.any_cons, List.map_cons]
    cases hp : p x with
    | true =>
      obtain ⟨ρ2, e2⟩ := h2 hp
      refine ⟨fun z => (by simp at z), fun _ => ⟨ρ2, forG_consR e1 e2⟩⟩
    | false =>
      obtain ⟨ρ2, e2, i2⟩ := h1 hp
      have ih := for_any (xs := xs) i2 fun y hy => h y (List.mem_cons_of_mem _ hy)
      rw [forG_cons e1 e2, Bool.false_or]
      exact ih
theorem sum_isum : ∀ xs : List Int, xs.sum = isum xs
  | [] => rfl
  | x :: xs => by rw [List.sum_cons, isum_cons, sum_isum xs]
theorem isum_le2 {α : Type} {f g : α → Int} : ∀ {xs : List α}, (∀ x ∈ xs, f x ≤ g x) → isum (xs.map f) ≤ isum (xs.map g)
  | [], _ => Int.le_refl 0
  | x :: xs, h => by
    have ih := isum_le2 (xs := xs) fun y hy => h y (List.mem_cons_of_mem _ hy)
    have := h x List.mem_cons_self
    rw [List.map_cons, List.map_cons, isum_cons, isum_cons]
    omega
/-! order of lists of numbers -/
def lexI : List Int → List Int → Bool
  | [], _ => false
  | _ :: _, [] => false
  | x :: xs, y :: ys => decide (x < y) || (!decide (y < x) && lexI xs ys)
theorem lex_toks : ∀ (xs ys : List Int) (r : List (Int ⊕ List Nat)), xs.length = ys.length → PyProof.Rows.lexLt PyProof.Rows.itemOrd (PySem.W.keyToksAll (pys (xs.map DV.int)) ++ r) (PySem.W.keyToksAll (pys (ys.map DV.int)) ++ r) = lexI xs ys
  | [], [], r, _ => PyProof.Rows.lex_irrefl (O := PyProof.Rows.itemOrd) _
  | x :: xs, y :: ys, r, h => by
    have ih := lex_toks xs ys r (by simpa using h)
    have e : ∀ (z : Int) (zs : List Int), PySem.W.keyToksAll (pys ((z :: zs).map DV.int)) ++ r = .inl 1 :: .inl z :: (PySem.W.keyToksAll (pys (zs.map DV.int)) ++ r) := fun z zs => by
      show PySem.W.keyToksAll (py (.int z) :: pys (zs.map DV.int)) ++ r = _
      simp [PySem.W.keyToksAll, py, PySem.W.keyToks]
    rw [e, e, PyProof.Rows.lex_self (O := PyProof.Rows.itemOrd), PyProof.Rows.lex_cons (O := PyProof.Rows.itemOrd), ih]
    rfl
  | [], _ :: _, _, h => by cases h
  | _ :: _, [], _, h => by cases h
theorem ge_lex {f t : List Int} (h : f.length = t.length) : geD f t = !lexI f t := by
  have a := lex_toks f t [] h
  rw [List.append_nil, List.append_nil] at a
  unfold geD
  rw [← a]
  rfl
theorem eqoks_n : ∀ (xs : List Int) {n : Nat}, eqoks (xs.map DV.int) n = true
  | [], _ => rfl
  | x :: xs, n => by
    show (eqok (.int x) n && eqoks (xs.map DV.int) n) = true
    rw [eqoks_n xs]
    rfl
abbrev uD (u : Int × List Int) : DV := .tup [.int u.1, di u.2]
theorem lt_uD {w v : Int} {l t : List Int} (h : l.length = t.length) : dLtD (.tup [.int w, di l]) (.tup [.int v, di t]) = .ok (.bl (decide (w < v) || (!decide (v < w) && lexI l t))) := by
  have q1 : eqok (.tup [.int w, di l]) 20 = true := by
    show (eqok (.int w) 19 && (eqok (di l) 19 && true)) = true
    have e : eqok (di l) 19 = true := by
      show eqoks (l.map DV.int) 18 = true
      exact eqoks_n l
    rw [e]
    rfl
  have q2 : eqok (.tup [.int v, di t]) 20 = true := by
    show (eqok (.int v) 19 && (eqok (di t) 19 && true)) = true
    have e : eqok (di t) 19 = true := by
      show eqoks (t.map DV.int) 18 = true
      exact eqoks_n t
    rw [e]
    rfl
  have q3 : PySem.W.alike (py (.tup [.int w, di l])) (py (.tup [.int v, di t])) = true := by
    show PySem.W.alike (.tuple [py (.int w), py (di l)]) (.tuple [py (.int v), py (di t)]) = true
    have a := alike_di (f := l) (t := t)
    simp only [PySem.W.alike, PySem.W.alikeAll, a]
    rfl
  have q : ordOk (.tup [.int w, di l]) (.tup [.int v, di t]) = true := by
    unfold ordOk
    rw [q1, q2, q3]
    rfl
  show (if ordOk (.tup [.int w, di l]) (.tup [.int v, di t]) = true then _ else _) = _
  rw [if_pos q]
  have e : ∀ (z : Int) (zs : List Int), PySem.W.keyToks (py (.tup [.int z, di zs])) = .inl 1 :: .inl z :: .inl 1 :: (PySem.W.keyToksAll (pys (zs.map DV.int)) ++ [.inl 0]) := fun z zs => by
    show PySem.W.keyToksAll [.int z, .list (pys (zs.map DV.int))] = _
    simp [PySem.W.keyToksAll, PySem.W.keyToks]
  show Rs.ok (DV.bl (PySem.W.dataLt (py (.tup [.int w, di l])) (py (.tup [.int v, di t])))) = _
  unfold PySem.W.dataLt
  rw [e, e, PyProof.Rows.lex_self (O := PyProof.Rows.itemOrd), PyProof.Rows.lex_cons (O := PyProof.Rows.itemOrd), PyProof.Rows.lex_self (O := PyProof.Rows.itemOrd), lex_toks l t _ h]
  rfl
theorem lexI_via : ∀ {l f t : List Int}, l.length = f.length → f.length = t.length → lexI l t = true → lexI l f = true ∨ lexI f t = true
  | [], f, t, _, _, h => by simp [lexI] at h
  | x :: l, [], _, h, _, _ => by cases h
  | x :: l, y :: f, [], _, h, _ => by cases h
  | x :: l, y :: f, z :: t, h1, h2, h => by
    have ih := lexI_via (l := l) (f := f) (t := t) (by simpa using h1) (by simpa using h2)
    simp only [lexI, Bool.or_eq_true, Bool.and_eq_true, decide_eq_true_eq, Bool.not_eq_true', decide_eq_false_iff_not] at h ⊢
    by_cases a : x < y
    · exact .inl (.inl a)
    · by_cases b : y < z
      · exact .inr (.inl b)
      · rcases h with h | ⟨h, k⟩
        · omega
        · rcases ih k with q | q
          · exact .inl (.inr ⟨by omega, q⟩)
          · exact .inr (.inr ⟨by omega, q⟩)
theorem lexI_ge : ∀ {l f : List Int}, l.length = f.length → (∀ j : Nat, j < l.length → f.getD j 0 ≤ l.getD j 0) → lexI l f = false
  | [], _, _, _ => rfl
  | x :: l, [], h, _ => by cases h
  | x :: l, y :: f, h, k => by
    have k0 := k 0 (Nat.zero_lt_succ _)
    have k0 : y ≤ x := k0
    have ih := lexI_ge (l := l) (f := f) (by simpa using h) fun j hj => by
      have := k (j + 1) (Nat.succ_lt_succ hj)
      simpa using this
    unfold lexI
    rw [ih, decide_eq_false (by omega), Bool.and_false]
    rfl
/-! good lists -/
def Bt (n : Nat) (l : List Int) : Prop := l.length = n ∧ ∀ b ∈ l, b = 0 ∨ b = 1
def dot (qs l : List Int) : Int := isum ((List.range l.length).map fun j => qs.getD j 0 * l.getD j 0)
def badR (l : List Int) (r : Row) : Bool := (!decide (r.r = Str.ofString "most") && decide (dot r.l l < r.b)) || (!decide (r.r = Str.ofString "least") && decide (r.b < dot r.l l))
def goodB (rs : List Row) (l : List Int) : Bool := !rs.any (badR l)
def okF (f : Option Int) (b : Int) : Bool := match f with
  | none => true
  | some c => decide (c = b)
def consB (fx : Fx) (l : List Int) : Bool := (List.range l.length).all fun j => okF (fx.getD j none) (l.getD j 0)
theorem Bt.at {n : Nat} {l : List Int} (h : Bt n l) {j : Nat} (hj : j < n) : l.getD j 0 = 0 ∨ l.getD j 0 = 1 := by
  rw [getD_lt (by have := h.1; omega)]
  exact h.2 _ (List.getElem_mem _)
theorem W_int {b : Int} : W (b, 1) = b * 12 := rfl
theorem pv_le {f : Option Int} {R b : Int} (hf : f = none ∨ f = some 0 ∨ f = some 1) (hb : b = 0 ∨ b = 1) (h : okF f b = true) : pvF f R ≤ R * b := by
  rcases hf with q | q | q <;> subst q <;> rcases hb with e | e <;> subst e <;> simp [okF, pvF] at h ⊢
  · split <;> omega
  · split <;> omega
theorem row_le {r : Row} {w : Int × Int} {l : List Int} (hw : Wt w) (h1 : badR l r = false) (h2 : fit1 r w = true) : W w * r.b ≤ W w * dot r.l l := by
  obtain ⟨_, _, w1, w2⟩ := W_ok hw
  unfold badR at h1
  unfold fit1 at h2
  by_cases c1 : r.r = Str.ofString "least"
  · have n2 : ¬ r.r = Str.ofString "most" := by rw [c1]; decide
    simp [c1, n2] at h1 h2
    have n3 : ¬ (Str.ofString "least" = Str.ofString "most") := by decide
    simp [n3] at h1 h2
    exact Int.mul_le_mul_of_nonneg_left h1 (w1 h2)
  · by_cases c2 : r.r = Str.ofString "most"
    · have n3 : ¬ (Str.ofString "most" = Str.ofString "least") := by decide
      simp [c2, n3] at h1 h2
      exact Int.mul_le_mul_of_nonpos_left (w2 (by omega)) h1
    · simp [c1, c2] at h1
      have e : r.b = dot r.l l := by omega
      rw [e]
      exact Int.le_refl _
theorem getD_map1 {l : List Int} {j : Nat} (h : j < l.length) : (l.map fun b => (b, (1 : Int))).getD j (0, 1) = (l.getD j 0, 1) := by
  rw [getD_lt (by rw [List.length_map]; exact h), List.getElem_map, getD_lt h]
theorem Q_dot {r : Row} {l : List Int} : Q (l.map fun b => (b, (1 : Int))) r = 12 * dot r.l l := by
  unfold Q dot
  rw [← isum_mul, List.length_map]
  congr 1
  refine List.map_congr_left fun j hj => ?_
  rw [getD_map1 (List.mem_range.mp hj), W_int]
  grind
theorem mainB {ps qs : List Int} {rs : List Row} {fx : Fx} {ws : List (Int × Int)} {l : List Int} (h : Bd ps rs fx ws) (e : ws.length = rs.length) (hl : qs.length = ps.length) (fit : fitB rs ws = true) (hb : Bt ps.length l) (hg : goodB rs l = true) (hc : consB fx l = true) : BV qs rs fx ws ≤ 12 * dot qs l := by
  have d := dual (vs := l.map fun b => (b, (1 : Int))) (rs := rs) (ws := ws) (fun p hp => by
    have m := List.of_mem_zip (show (p.1, p.2) ∈ rs.zip ws from hp)
    have g : badR l p.1 = false := by
      cases q : badR l p.1 with
      | false => rfl
      | true =>
        unfold goodB at hg
        rw [List.any_eq_true.mpr ⟨p.1, m.1, q⟩] at hg
        cases hg
    have r := row_le (h.w _ m.2) g (fit_use e fit p hp)
    rw [Q_dot]
    have e1 : W p.2 * (12 * p.1.b) = W p.2 * p.1.b * 12 := by grind
    have e2 : W p.2 * (12 * dot p.1.l l) = W p.2 * dot p.1.l l * 12 := by grind
    rw [e1, e2]
    omega) e.symm
  have pd : Pd (l.map fun b => (b, (1 : Int))) rs ws = 12 * isum ((List.range l.length).map fun j => S (col rs j) ws * l.getD j 0) := by
    unfold Pd
    rw [← isum_mul, List.length_map]
    congr 1
    refine List.map_congr_left fun j hj => ?_
    rw [getD_map1 (List.mem_range.mp hj), W_int]
    grind
  have p2 : isum ((List.range l.length).map (pvJ qs rs fx ws)) ≤ isum ((List.range l.length).map fun j => Rv qs rs ws j * l.getD j 0) := isum_le2 fun j hj => by
    have hj := List.mem_range.mp hj
    exact pv_le (fx_at h j) (hb.at (by have := hb.1; omega)) (List.all_eq_true.mp hc j (List.mem_range.mpr hj))
  have sm : isum ((List.range l.length).map fun j => S (col rs j) ws * l.getD j 0) + isum ((List.range l.length).map fun j => Rv qs rs ws j * l.getD j 0) = 12 * dot qs l := by
    unfold dot
    rw [← isum_add, ← isum_mul]
    congr 1
    refine List.map_congr_left fun j _ => ?_
    unfold Rv
    grind
  unfold BV
  rw [hl, ← hb.1]
  omega
theorem ceil_le {x : Int × Int} {N w : Int} (c : Cn x N) (h : N ≤ 12 * w) : ceilV x ≤ w ∧ x.1 ≤ w * x.2 := by
  obtain ⟨⟨h1, h2⟩, _⟩ := c
  have a : x.1 ≤ w * x.2 := by
    have b := Int.mul_le_mul_of_nonneg_right h (Int.le_of_lt h2)
    rw [← h1] at b
    have e : 12 * w * x.2 = w * x.2 * 12 := by grind
    omega
  refine ⟨?_, a⟩
  unfold ceilV
  have b : -w ≤ -x.1 / x.2 := Int.le_ediv_of_mul_le h2 (by rw [Int.neg_mul]; omega)
  omega
theorem first_at {fx : Fx} {l : List Int} (hg : FxG fx) (hl : l.length = fx.length) (hb : Bt l.length l) (hc : consB fx l = true) : lexI l (firstL fx) = false := by
  refine lexI_ge (by unfold firstL; rw [List.length_map]; exact hl) fun j hj => ?_
  have c := List.all_eq_true.mp hc j (List.mem_range.mpr hj)
  have hf := hg _ (List.getElem_mem (by omega : j < fx.length))
  have e : (firstL fx).getD j 0 = bitV (fx.getD j none) := by
    unfold firstL
    rw [getD_lt (by rw [List.length_map]; omega), List.getElem_map, getD_lt (by omega)]
  rw [e]
  rw [← getD_lt (d := none) (by omega : j < fx.length)] at hf
  have b := hb.at hj
  rcases hf with q | q | q <;> rw [q] at c ⊢
  · show (0 : Int) ≤ _
    omega
  · show (0 : Int) ≤ _
    omega
  · have c : decide ((1 : Int) = l.getD j 0) = true := c
    have c := of_decide_eq_true c
    show (1 : Int) ≤ _
    omega
/-- what closes a fixing leaves no better list -/
theorem closed {fx : Fx} {x : Int × Int} {v w : Int} {told l : List Int} (hg : FxG fx) (hl : l.length = fx.length) (ht : told.length = l.length) (hb : Bt l.length l) (hc : consB fx l = true) (hw : ceilV x ≤ w) (h : clB v told fx x = true) : (decide (w < v) || (!decide (v < w) && lexI l told)) = false := by
  have fl : (firstL fx).length = l.length := by unfold firstL; rw [List.length_map]; exact hl.symm
  unfold clB at h
  rcases (Bool.or_eq_true _ _).mp h with h | h
  · have h := of_decide_eq_true h
    rw [decide_eq_false (by omega : ¬ w < v), decide_eq_true (by omega : v < w)]
    rfl
  · obtain ⟨h1, h2⟩ := (Bool.and_eq_true _ _).mp h
    have h1 := of_decide_eq_true h1
    rw [ge_lex (by omega)] at h2
    have h2 : lexI (firstL fx) told = false := by simpa using h2
    have f := first_at hg hl hb hc
    rw [decide_eq_false (by omega : ¬ w < v), Bool.false_or]
    cases q : lexI l told with
    | false => rw [Bool.and_false]
    | true =>
      rcases lexI_via fl.symm (by omega) q with z | z
      · rw [f] at z; cases z
      · rw [h2] at z; cases z
/-! the law's lists -/
section
variable {ps qs : List Int} {rs : List Row} {l : List Int} {n : Nat}
theorem dot_e {A B : Option DV} {ρ : EnvD} {a b : GE} {k : Nat} (hb : Bt n l) (hn : n ≤ 6) (hq : ∀ q ∈ qs, q.natAbs ≤ 100) (hl : qs.length = n) (ha : ∀ d, a ((wipeD ρ [k]).set k (some d)) = .ok (di qs)) (hb2 : ∀ d, b ((wipeD ρ [k]).set k (some d)) = .ok (di l)) (hk : ∀ d, lk ((wipeD ρ [k]).set k (some d)) k = .ok d) (h0 : b ρ = .ok (di l)) : gCB dSum (aCons (gLc (gRng1 (aCons (gCB dLen (aCons b aNil)) aNil)) (gtName k) gYes (gBin dMul (gBin dIx a (gVar k)) (gBin dIx b (gVar k))) [k]) aNil) ρ = .ok (.int (dot qs l)) := by
  have ll := hb.1
  have e : gLc (gRng1 (aCons (gCB dLen (aCons b aNil)) aNil)) (gtName k) gYes (gBin dMul (gBin dIx a (gVar k)) (gBin dIx b (gVar k))) [k] ρ = .ok (di ((List.range l.length).map fun j => qs.getD j 0 * l.getD j 0)) := by
    unfold di
    rw [List.map_map]
    refine ev_lc (rng1_e (n := l.length) (lenD_e (f := DV.int) h0) rfl (by omega)) (rngD_len (by omega)) (lcLoop_rng fun j hj => lc_yes (ρ1 := (wipeD ρ [k]).set k (some (.int ((0 : Int) + (j : Int))))) rfl rfl ?_)
    have m : mulOk (qs.getD j 0) (l.getD j 0) = true := mulT (by rw [getD_lt (by omega)]; have := hq _ (List.getElem_mem (by omega : j < qs.length)); omega)
    refine (bin_e ((bin_e (ha _) (hk _)).trans ?_) ((bin_e (hb2 _) (hk _)).trans ?_)).trans (dMul_i m)
    · rw [dIx_g (g := DV.int) j (by omega) (by omega), getD_lt (by omega)]
    · rw [dIx_g (g := DV.int) j (by omega) (by omega), getD_lt (by omega)]
  rw [(cb1 e).trans dSum_i, sum_isum]
  rfl
theorem worth_ok (hb : Bt n l) (hn : n ≤ 6) (hq : ∀ q ∈ qs, q.natAbs ≤ 100) (hl : qs.length = n) : m__law_worth [di qs, di l] = .ok (.int (dot qs l)) := by
  have st : startD 3 [di qs, di l] = [some (di qs), some (di l), none] := rfl
  unfold m__law_worth runB b__law_worth
  rw [st, ret_e (dot_e (A := none) (B := none) (k := 2) (a := gVar 0) (b := gVar 1) hb hn hq hl (fun _ => rfl) (fun _ => rfl) (fun _ => rfl) rfl)]
  rfl
theorem ne_rel {r : Str} (h : in3 r) : dNe (.str r) (.str (Str.ofString "most")) = .ok (.bl (!decide (r = Str.ofString "most"))) ∧ dNe (.str r) (.str (Str.ofString "least")) = .ok (.bl (!decide (r = Str.ofString "least"))) := by
  rcases h with h | h | h <;> subst h <;> constructor <;> (unfold dNe; rw [if_pos (by decide +kernel)]; simp [eqv, py, PyData.eqv]; try (first | rfl | decide +kernel))
theorem good_ok (hb : Bt n l) (hn : n ≤ 6) (hg : ∀ r ∈ rs, Gr n r) : m__law_good [rsD rs, di l] = .ok (.bl (goodB rs l)) := by
  have st : startD 7 [rsD rs, di l] = [some (rsD rs), some (di l), none, none, none, none, none] := rfl
  have f := for_any (g := rowD) (tg := gtTup [2, 3, 4]) (b := (gSeq (gAsg (gPure (gCB dSum (aCons (gLc (gRng1 (aCons (gCB dLen (aCons (gVar 1) aNil)) aNil)) (gtName 6) gYes (gBin dMul (gBin dIx (gVar 2) (gVar 6)) (gBin dIx (gVar 1) (gVar 6))) [6]) aNil))) (gtName 5)) (gIfS (gOr (gAnd (gB (gBin dNe (gVar 3) (gC (.str (Str.ofString "most"))))) (gB (gBin dLt (gVar 5) (gVar 4)))) (gAnd (gB (gBin dNe (gVar 3) (gC (.str (Str.ofString "least"))))) (gB (gBin dGt (gVar 5) (gVar 4))))) (gRet (gPure (gC (.bl false)))) gNext))) (I := fun ρ => ∃ t2 t3 t4 t5 t6 : Option DV, ρ = [some (rsD rs), some (di l), t2, t3, t4, t5, t6]) (p := badR l) (xs := rs) (ρ := [some (rsD rs), some (di l), none, none, none, none, none]) ⟨_, _, _, _, _, rfl⟩ (fun r hr ρ hρ => by
    obtain ⟨t2, t3, t4, t5, t6, rfl⟩ := hρ
    have g := hg r hr
    have s0 : (gAsg (gPure (gCB dSum (aCons (gLc (gRng1 (aCons (gCB dLen (aCons (gVar 1) aNil)) aNil)) (gtName 6) gYes (gBin dMul (gBin dIx (gVar 2) (gVar 6)) (gBin dIx (gVar 1) (gVar 6))) [6]) aNil))) (gtName 5)) [some (rsD rs), some (di l), some (di r.l), some (.str r.r), some (.int r.b), t5, t6] = .nx [some (rsD rs), some (di l), some (di r.l), some (.str r.r), some (.int r.b), some (.int (dot r.l l)), t6] := set_e (dot_e (A := none) (B := none) (k := 6) (a := gVar 2) (b := gVar 1) hb hn g.2.1 g.1 (fun _ => rfl) (fun _ => rfl) (fun _ => rfl) rfl)
    have nr := ne_rel g.2.2.2
    have t : (gOr (gAnd (gB (gBin dNe (gVar 3) (gC (.str (Str.ofString "most"))))) (gB (gBin dLt (gVar 5) (gVar 4)))) (gAnd (gB (gBin dNe (gVar 3) (gC (.str (Str.ofString "least"))))) (gB (gBin dGt (gVar 5) (gVar 4))))) [some (rsD rs), some (di l), some (di r.l), some (.str r.r), some (.int r.b), some (.int (dot r.l l)), t6] = .ok (badR l r) := or_e (and_e (b_e ((bin_e rfl rfl).trans nr.1)) (b_e ((bin_e rfl rfl).trans dLt_i))) (and_e (b_e ((bin_e rfl rfl).trans nr.2)) (b_e ((bin_e rfl rfl).trans dGt_i)))
    refine ⟨_, rfl, fun hp => ⟨_, (ev_seq s0).trans ((ev_ifS (t.trans (congrArg _ hp))).trans rfl), _, _, _, _, _, rfl⟩, fun hp => ⟨_, (ev_seq s0).trans ((ev_ifS (t.trans (congrArg _ hp))).trans ((if_pos rfl).trans (ret_e rfl)))⟩⟩)
  have it : gSeqI (gVar 0) [some (rsD rs), some (di l), none, none, none, none, none] = .ok (rs.map rowD) := seq_e (f := rowD) (xs := rs) rfl
  unfold m__law_good runB b__law_good goodB
  rw [st]
  cases h1 : rs.any (badR l) with
  | true =>
    obtain ⟨ρ2, f2⟩ := f.2 h1
    rw [ev_seqR (ev_forR it f2)]
    rfl
  | false =>
    obtain ⟨ρ2, f2, _⟩ := f.1 h1
    rw [ev_seq (ev_for it f2)]
    rfl
theorem bit01 {a : Int} (h0 : 0 ≤ a) (h : a < 64) : Builtin.bitAnd a 1 = 0 ∨ Builtin.bitAnd a 1 = 1 := by
  have k : ∀ m : Fin 64, Builtin.bitAnd ((m.val : Nat) : Int) 1 = 0 ∨ Builtin.bitAnd ((m.val : Nat) : Int) 1 = 1 := by decide +kernel
  have z := k ⟨a.toNat, by omega⟩
  rw [show (((⟨a.toNat, by omega⟩ : Fin 64).val : Nat) : Int) = a by show ((a.toNat : Nat) : Int) = a; omega] at z
  exact z
theorem shl_e {L : Nat} (h : L ≤ 6) : dShl (.int 1) (.int (L : Int)) = .ok (.int ((2 ^ L : Nat) : Int)) := by
  have c : L = 0 ∨ L = 1 ∨ L = 2 ∨ L = 3 ∨ L = 4 ∨ L = 5 ∨ L = 6 := by omega
  rcases c with rfl | rfl | rfl | rfl | rfl | rfl | rfl <;> rfl
theorem lcLoop_lst {h : DV → Rs (Option DV)} {P : List Int → Prop} : ∀ {xs : List Int}, (∀ x ∈ xs, ∃ y, P y ∧ h (.int x) = .ok (some (di y))) → ∃ ys : List (List Int), (∀ y ∈ ys, P y) ∧ ys.length = xs.length ∧ lcLoop h (xs.map DV.int) = .ok (ys.map di)
  | [], _ => ⟨[], fun y hy => (by cases hy), rfl, rfl⟩
  | x :: xs, k => by
    obtain ⟨y, hy, e⟩ := k x List.mem_cons_self
    obtain ⟨ys, hp, l, e2⟩ := lcLoop_lst (xs := xs) fun z hz => k z (List.mem_cons_of_mem _ hz)
    refine ⟨y :: ys, fun z hz => ?_, by rw [List.length_cons, List.length_cons, l], ?_⟩
    · rcases List.mem_cons.mp hz with q | q
      · rw [q]; exact hy
      · exact hp z q
    · rw [List.map_cons, List.map_cons]
      unfold lcLoop
      rw [e]
      show (lcLoop h (xs.map DV.int)).bind _ = _
      rw [e2]
      rfl
theorem lists_ok (hn : n ≤ 6) (h1 : 1 ≤ n) : ∃ ls : List (List Int), m__law_lists [.int (n : Int)] = .ok (.lst (ls.map di)) ∧ ls.length ≤ 64 ∧ ∀ l ∈ ls, Bt n l := by
  have st : startD 3 [.int (n : Int)] = [some (.int (n : Int)), none, none] := rfl
  have p6 : 2 ^ n ≤ 2 ^ 6 := Nat.pow_le_pow_right (by decide) hn
  have e6 : 2 ^ 6 = 64 := by decide
  obtain ⟨ls, hp, ll, e⟩ := lcLoop_lst (P := Bt n) (xs := intL (2 ^ n)) (h := lcTurn (gtName 2) gYes (gLc (gRng1 (aCons (gVar 0) aNil)) (gtName 1) gYes (gBin dAnd (gBin dShr (gVar 2) (gBin dSub (gBin dSub (gVar 0) (gC (.int 1))) (gVar 1))) (gC (.int 1))) [1]) (wipeD [some (.int (n : Int)), none, none] [2])) fun m hm => by
    have hm := mem_ints.mp hm
    obtain ⟨ys, yl, yp, ye⟩ := lc_ints (P := fun b => b = 0 ∨ b = 1) (gi := (gRng1 (aCons (gVar 0) aNil))) (tg := gtName 1) (gt := gYes) (ge := (gBin dAnd (gBin dShr (gVar 2) (gBin dSub (gBin dSub (gVar 0) (gC (.int 1))) (gVar 1))) (gC (.int 1)))) (vs := [1]) (ρ := [some (.int (n : Int)), none, some (.int m)]) (rng_ints (n := n) (i := (n : Int)) rfl rfl (by omega)) (by omega) (fun o o0 on => by
      refine ⟨Builtin.bitAnd (m / 2 ^ ((n : Int) - 1 - o).toNat) 1, bit01 (Int.ediv_nonneg hm.1 (Int.le_of_lt (Int.pow_pos (by decide)))) ?_, lc_yes (ρ1 := [some (.int (n : Int)), some (.int o), some (.int m)]) rfl rfl ?_⟩
      · have q : m / 2 ^ ((n : Int) - 1 - o).toNat ≤ m := Int.ediv_le_self _ hm.1
        omega
      · have sh : dShr (.int m) (.int ((n : Int) - 1 - o)) = .ok (.int (m / 2 ^ ((n : Int) - 1 - o).toNat)) := by
          unfold dShr dII
          dsimp only
          rw [if_pos (decide_eq_true (by omega))]
        exact (bin_e ((bin_e rfl ((bin_e ((bin_e rfl rfl).trans dSub_i) rfl).trans dSub_i)).trans sh) rfl).trans rfl)
    exact ⟨ys, ⟨yl, yp⟩, lc_yes (ρ1 := [some (.int (n : Int)), none, some (.int m)]) rfl rfl ye⟩
  have k : (gLc (gRng1 (aCons (gBin dShl (gC (.int 1)) (gVar 0)) aNil)) (gtName 2) gYes (gLc (gRng1 (aCons (gVar 0) aNil)) (gtName 1) gYes (gBin dAnd (gBin dShr (gVar 2) (gBin dSub (gBin dSub (gVar 0) (gC (.int 1))) (gVar 1))) (gC (.int 1))) [1]) [2]) [some (.int (n : Int)), none, none] = .ok (.lst (ls.map di)) := ev_lc (rng_ints (n := 2 ^ n) ((bin_e rfl rfl).trans (shl_e hn)) rfl (by omega)) (lenG (by rw [ints_len]; omega)) e
  refine ⟨ls, ?_, by rw [ll, ints_len]; omega, hp⟩
  unfold m__law_lists runB b__law_lists
  rw [st, ret_e k]
  rfl
end
end M
end

/-! text B6 -/
section
set_option maxRecDepth 100000
set_option maxHeartbeats 4000000
namespace M
open PySem DL
theorem isum_le {α : Type} {f : α → Int} {b : Nat} : ∀ {xs : List α}, (∀ x ∈ xs, (f x).natAbs ≤ b) → (isum (xs.map f)).natAbs ≤ b * xs.length
  | [], _ => by simp [isum]
  | x :: xs, h => by
    have ih := isum_le (xs := xs) fun y hy => h y (List.mem_cons_of_mem _ hy)
    have h1 := h x List.mem_cons_self
    rw [List.map_cons, isum_cons, List.length_cons, Nat.mul_succ]
    omega
theorem bls_e {α : Type} {f : α → Bool} : ∀ {xs : List α}, bls (xs.map fun x => DV.bl (f x)) = some (xs.map f)
  | [] => rfl
  | x :: xs => by
    show (bls (xs.map fun x => DV.bl (f x))).map (f x :: ·) = _
    rw [bls_e]
    rfl
theorem allB {α : Type} {f : α → Bool} {xs : List α} : dAll [.lst (xs.map fun x => DV.bl (f x))] = .ok (.bl (xs.all f)) := dAll_ok
theorem cb6 {a b c d e f : GE} {o : OpA} {ρ : EnvD} {x1 x2 x3 x4 x5 x6 : DV} (h1 : a ρ = .ok x1) (h2 : b ρ = .ok x2) (h3 : c ρ = .ok x3) (h4 : d ρ = .ok x4) (h5 : e ρ = .ok x5) (h6 : f ρ = .ok x6) : gCB o (aCons a (aCons b (aCons c (aCons d (aCons e (aCons f aNil)))))) ρ = o [x1, x2, x3, x4, x5, x6] := by
  rw [ev_cb, ev_cons, h1, ev_cons, h2, ev_cons, h3, ev_cons, h4, ev_cons, h5, ev_cons, h6]
  rfl
section
variable {ps : List Int} {rs : List Row} {fx : Fx} {ws : List (Int × Int)} {v : Int} {told : List Int}
def UP (ps : List Int) (rs : List Row) (fx : Fx) (u : Int × List Int) : Prop := Bt ps.length u.2 ∧ goodB rs u.2 = true ∧ consB fx u.2 = true ∧ u.1 = dot ps u.2
theorem ok_fD {f : Option Int} {b : Int} {ρ : EnvD} {g h : GE} (hg : g ρ = .ok (fD f)) (hh : h ρ = .ok (.int b)) : gOrV (gBin dIsN g (gC .non)) (gBin dEq g h) ρ = .ok (.bl (okF f b)) := by
  have n : gBin dIsN g (gC .non) ρ = .ok (.bl (!f.isSome)) := (bin_e hg rfl).trans isN_fD
  cases f with
  | none => exact orV_t n
  | some c =>
    rw [orV_f n, (bin_e hg hh).trans eq_fD]
    show Rs.ok (DV.bl (decide (some c = some b))) = .ok (.bl (decide (c = b)))
    rw [decide_eq_decide.mpr ⟨fun h => Option.some.inj h, fun h => by rw [h]⟩]
theorem u_turn {us : List (Int × List Int)} {l : List Int} {t7 t8 t9 t10 : Option DV} (h : Bd ps rs fx ws) (hq : ∀ q ∈ ps, q.natAbs ≤ 20) (hb : Bt ps.length l) (lu : us.length ≤ 100) (hu : ∀ u ∈ us, UP ps rs fx u) : ∃ (us' : List (Int × List Int)) (w8 : Option DV), (gIfS (gAnd (gB (gCB m__law_good (aCons (gVar 0) (aCons (gVar 7) aNil)))) (gB (gCB dAll (aCons (gLc (gRng1 (aCons (gCB dLen (aCons (gVar 7) aNil)) aNil)) (gtName 8) gYes (gOrV (gBin dIsN (gBin dIx (gVar 2) (gVar 8)) (gC .non)) (gBin dEq (gBin dIx (gVar 2) (gVar 8)) (gBin dIx (gVar 7) (gVar 8)))) [8]) aNil)))) (gDrop (gApp 6 (gPure (eTup (aCons (gCB m__law_worth (aCons (gVar 1) (aCons (gVar 7) aNil))) (aCons (gVar 7) aNil)))))) gNext) [some (rsD rs), some (di ps), some (fxD fx), some (dp ws), some (.int v), some (di told), some (.lst (us.map uD)), some (di l), t8, t9, t10] = .nx [some (rsD rs), some (di ps), some (fxD fx), some (dp ws), some (.int v), some (di told), some (.lst (us'.map uD)), some (di l), w8, t9, t10] ∧ us'.length ≤ us.length + 1 ∧ ∀ u ∈ us', UP ps rs fx u := by
  have n6 := h.n6
  have fl := h.fl
  have ll := hb.1
  have g : gB (gCB m__law_good (aCons (gVar 0) (aCons (gVar 7) aNil))) [some (rsD rs), some (di ps), some (fxD fx), some (dp ws), some (.int v), some (di told), some (.lst (us.map uD)), some (di l), t8, t9, t10] = .ok (goodB rs l) := b_e ((cb2 rfl rfl).trans (good_ok hb n6 h.g))
  have ka : (gLc (gRng1 (aCons (gCB dLen (aCons (gVar 7) aNil)) aNil)) (gtName 8) gYes (gOrV (gBin dIsN (gBin dIx (gVar 2) (gVar 8)) (gC .non)) (gBin dEq (gBin dIx (gVar 2) (gVar 8)) (gBin dIx (gVar 7) (gVar 8)))) [8]) [some (rsD rs), some (di ps), some (fxD fx), some (dp ws), some (.int v), some (di told), some (.lst (us.map uD)), some (di l), t8, t9, t10] = .ok (.lst ((List.range l.length).map fun j => DV.bl (okF (fx.getD j none) (l.getD j 0)))) := ev_lc (rng1_e (n := l.length) (len_e (g := DV.int) (xs := l) rfl) rfl (by omega)) (rngD_len (by omega)) (lcLoop_rng fun j hj => lc_yes (ρ1 := [some (rsD rs), some (di ps), some (fxD fx), some (dp ws), some (.int v), some (di told), some (.lst (us.map uD)), some (di l), some (.int ((0 : Int) + (j : Int))), t9, t10]) rfl rfl (ok_fD ((bin_e rfl rfl).trans (by rw [dIx_g (g := fD) j (by omega) (by omega), getD_lt (by omega)])) ((bin_e rfl rfl).trans (by rw [dIx_g (g := DV.int) j (by omega) (by omega), getD_lt (by omega)]))))
  have c : gB (gCB dAll (aCons (gLc (gRng1 (aCons (gCB dLen (aCons (gVar 7) aNil)) aNil)) (gtName 8) gYes (gOrV (gBin dIsN (gBin dIx (gVar 2) (gVar 8)) (gC .non)) (gBin dEq (gBin dIx (gVar 2) (gVar 8)) (gBin dIx (gVar 7) (gVar 8)))) [8]) aNil)) [some (rsD rs), some (di ps), some (fxD fx), some (dp ws), some (.int v), some (di told), some (.lst (us.map uD)), some (di l), t8, t9, t10] = .ok (consB fx l) := b_e ((cb1 ka).trans allB)
  rw [ev_ifS (and_e g c)]
  by_cases k : (goodB rs l && consB fx l) = true
  · rw [if_pos k]
    obtain ⟨k1, k2⟩ := (Bool.and_eq_true _ _).mp k
    refine ⟨us ++ [(dot ps l, l)], _, app_g (g := uD) (xs := us) (x := (dot ps l, l)) rfl (tup2 ((cb2 rfl rfl).trans (worth_ok hb n6 (fun q hq2 => by have := hq q hq2; omega) rfl)) rfl) (by omega), by rw [List.length_append]; exact Nat.le_refl _, fun u hu2 => ?_⟩
    rcases List.mem_append.mp hu2 with z | z
    · exact hu u z
    · rw [List.mem_singleton.mp z]
      exact ⟨hb, k1, k2, rfl⟩
  · rw [if_neg k]
    exact ⟨us, _, rfl, Nat.le_succ _, hu⟩
theorem dot_zer {n : Nat} {l : List Int} : dot (zer n) l = 0 := isum_zero fun j _ => by
  have e : (zer n).getD j 0 = 0 := by
    by_cases c : j < n
    · rw [getD_lt (by rw [zer_len]; exact c)]
      unfold zer
      rw [List.getElem_replicate]
    · rw [List.getD_eq_getElem?_getD, List.getElem?_eq_none (by rw [zer_len]; omega)]
      rfl
  rw [e, Int.zero_mul]
theorem dot_bd {l : List Int} (hq : ∀ q ∈ ps, q.natAbs ≤ 20) (hb : Bt ps.length l) (n6 : ps.length ≤ 6) : (dot ps l).natAbs ≤ 120 := by
  have a := isum_le (f := fun j => ps.getD j 0 * l.getD j 0) (b := 20) (xs := List.range l.length) fun j hj => by
    have hj := List.mem_range.mp hj
    have hb2 := hb.at (j := j) (by have := hb.1; omega)
    have p := getD_bd hq j
    rcases hb2 with q | q <;> rw [q]
    · rw [Int.mul_zero]; exact Nat.zero_le _
    · rw [Int.mul_one]; exact p
  rw [List.length_range] at a
  have := Nat.mul_le_mul_left 20 (by rw [hb.1]; exact n6 : l.length ≤ 6)
  exact Nat.le_trans a this
theorem no_cnt {α : Type} {p : α → Bool} {xs : List α} (h : ∀ x ∈ xs, p x = false) : (xs.filter p).length = 0 := by
  rw [List.filter_eq_nil_iff.mpr fun x hx => by rw [h x hx]; exact Bool.false_ne_true]
  rfl
theorem true_ok (h : Bd ps rs fx ws) (e : ws.length = rs.length) (hq : ∀ q ∈ ps, q.natAbs ≤ 20) (ht : told.length = ps.length) : m__law_true [rsD rs, di ps, fxD fx, dp ws, .int v, di told] = .ok (.bl true) := by
  have n6 := h.n6
  have r5 := h.r5
  have fl := h.fl
  have st : startD 11 [rsD rs, di ps, fxD fx, dp ws, .int v, di told] = [some (rsD rs), some (di ps), some (fxD fx), some (dp ws), some (.int v), some (di told), none, none, none, none, none] := rfl
  have s0 : (gAsg (gPure (eLst aNil)) (gtName 6)) [some (rsD rs), some (di ps), some (fxD fx), some (dp ws), some (.int v), some (di told), none, none, none, none, none] = .nx [some (rsD rs), some (di ps), some (fxD fx), some (dp ws), some (.int v), some (di told), some (.lst (([] : List (Int × List Int)).map uD)), none, none, none, none] := rfl
  obtain ⟨ls, el, ll, hls⟩ := lists_ok n6 h.n1
  obtain ⟨ρ', f1, us, t7, t8, t9, t10, e1, lu, hu⟩ := forG_list (g := di) (tg := gtName 7) (b := (gIfS (gAnd (gB (gCB m__law_good (aCons (gVar 0) (aCons (gVar 7) aNil)))) (gB (gCB dAll (aCons (gLc (gRng1 (aCons (gCB dLen (aCons (gVar 7) aNil)) aNil)) (gtName 8) gYes (gOrV (gBin dIsN (gBin dIx (gVar 2) (gVar 8)) (gC .non)) (gBin dEq (gBin dIx (gVar 2) (gVar 8)) (gBin dIx (gVar 7) (gVar 8)))) [8]) aNil)))) (gDrop (gApp 6 (gPure (eTup (aCons (gCB m__law_worth (aCons (gVar 1) (aCons (gVar 7) aNil))) (aCons (gVar 7) aNil)))))) gNext)) 64 (fun done ρ => ∃ (us : List (Int × List Int)) (t7 t8 t9 t10 : Option DV), ρ = [some (rsD rs), some (di ps), some (fxD fx), some (dp ws), some (.int v), some (di told), some (.lst (us.map uD)), t7, t8, t9, t10] ∧ us.length ≤ done.length ∧ ∀ u ∈ us, UP ps rs fx u) ls [] [some (rsD rs), some (di ps), some (fxD fx), some (dp ws), some (.int v), some (di told), some (.lst (([] : List (Int × List Int)).map uD)), none, none, none, none] (by simpa using ll) (fun l done ρ hl hd hh => by
    obtain ⟨us, t7, t8, t9, t10, rfl, lu, hu⟩ := hh
    obtain ⟨us', u8, k, lu', hu'⟩ := u_turn (v := v) (told := told) (t7 := t7) (t8 := t8) (t9 := t9) (t10 := t10) h hq (hls l hl) (by omega) hu
    exact ⟨[some (rsD rs), some (di ps), some (fxD fx), some (dp ws), some (.int v), some (di told), some (.lst (us.map uD)), some (di l), t8, t9, t10], [some (rsD rs), some (di ps), some (fxD fx), some (dp ws), some (.int v), some (di told), some (.lst (us'.map uD)), some (di l), u8, t9, t10], rfl, k, us', _, _, _, _, rfl, by rw [List.length_append, List.length_singleton]; omega, hu'⟩) ⟨[], _, _, _, _, rfl, Nat.le_refl _, fun u hu => (by cases hu)⟩
  have it : gSeqI (gCB m__law_lists (aCons (gCB dLen (aCons (gVar 1) aNil)) aNil)) [some (rsD rs), some (di ps), some (fxD fx), some (dp ws), some (.int v), some (di told), some (.lst (([] : List (Int × List Int)).map uD)), none, none, none, none] = .ok (ls.map di) := by
    unfold gSeqI
    rw [(cb1 (len_e (g := DV.int) (xs := ps) rfl)).trans el]
    rfl
  have lu2 : us.length ≤ 64 := by rw [List.nil_append] at lu; omega
  have t2 : (gNot (gB (gCB m__law_fit (aCons (gVar 0) (aCons (gVar 3) aNil))))) [some (rsD rs), some (di ps), some (fxD fx), some (dp ws), some (.int v), some (di told), some (.lst (us.map uD)), t7, t8, t9, t10] = .ok (!fitB rs ws) := not_e (b_e ((cb2 rfl rfl).trans (lfit_ok h.g (by omega) e)))
  unfold m__law_true runB b__law_true
  rw [st, ev_seq s0, ev_seq (ev_for it f1), e1]
  cases hf : fitB rs ws with
  | false =>
    rw [hf] at t2
    rw [ev_stop t2 (ret_e rfl)]
    rfl
  | true =>
    rw [hf] at t2
    rw [ev_skip t2]
    obtain ⟨x, eb, cx⟩ := lbound_ok h e rfl hq
    have s3 : (gAsg (gPure (gCB m__law_bound (aCons (gVar 1) (aCons (gVar 0) (aCons (gVar 2) (aCons (gVar 3) aNil)))))) (gtName 9)) [some (rsD rs), some (di ps), some (fxD fx), some (dp ws), some (.int v), some (di told), some (.lst (us.map uD)), t7, t8, t9, t10] = .nx [some (rsD rs), some (di ps), some (fxD fx), some (dp ws), some (.int v), some (di told), some (.lst (us.map uD)), t7, t8, some (pr x), t10] := set_e ((cb4 rfl rfl rfl rfl).trans eb)
    have wl : ∀ u ∈ us, ceilV x ≤ u.1 ∧ x.1 ≤ u.1 * x.2 := fun u hu2 => by
      obtain ⟨u1, u2, u3, u4⟩ := hu u hu2
      have m := mainB (qs := ps) h e rfl hf u1 u2 u3
      rw [← u4] at m
      exact ceil_le cx m
    have k4 : (gLc (gSeqI (gVar 6)) (gtTup [10, 7]) (gB (gBin dLt (gBin dMul (gVar 10) (gBin dIx (gVar 9) (gC (.int 1)))) (gBin dIx (gVar 9) (gC (.int 0))))) (gC (.int 1)) [10, 7]) [some (rsD rs), some (di ps), some (fxD fx), some (dp ws), some (.int v), some (di told), some (.lst (us.map uD)), t7, t8, some (pr x), t10] = .ok (.lst ((us.filter fun u => decide (u.1 * x.2 < x.1)).map fun _ => DV.int 1)) := ev_lc (seq_e (f := uD) (xs := us) rfl) (lenG (by omega)) (lcLoop_filt (f := fun _ => DV.int 1) fun u hu2 => lc_b (ρ1 := [some (rsD rs), some (di ps), some (fxD fx), some (dp ws), some (.int v), some (di told), some (.lst (us.map uD)), some (di u.2), t8, some (pr x), some (.int u.1)]) rfl (b_e ((bin_e ((bin_e rfl ((bin_e rfl rfl).trans ix1)).trans (dMul_i (mulT (by
      obtain ⟨u1, _, _, u4⟩ := hu u hu2
      rw [u4]
      have := dot_bd hq u1 n6
      omega)))) ((bin_e rfl rfl).trans ix0)).trans dLt_i)) rfl)
    have t4 : (gB (gBin dGt (gCB dLen (aCons (gLc (gSeqI (gVar 6)) (gtTup [10, 7]) (gB (gBin dLt (gBin dMul (gVar 10) (gBin dIx (gVar 9) (gC (.int 1)))) (gBin dIx (gVar 9) (gC (.int 0))))) (gC (.int 1)) [10, 7]) aNil)) (gC (.int 0)))) [some (rsD rs), some (di ps), some (fxD fx), some (dp ws), some (.int v), some (di told), some (.lst (us.map uD)), t7, t8, some (pr x), t10] = .ok false := by
      refine b_e ((bin_e (lenD_e (f := fun _ => DV.int 1) k4) rfl).trans (dGt_i.trans ?_))
      rw [no_cnt fun u hu2 => decide_eq_false (by have := (wl u hu2).2; omega)]
      rfl
    rw [ev_seq s3, ev_skip t4]
    have sn := lsnone_ok h e
    have t5 : (gAnd (gB (gCB m__law_shows_none (aCons (gVar 1) (aCons (gVar 0) (aCons (gVar 2) (aCons (gVar 3) aNil)))))) (gB (gBin dGt (gCB dLen (aCons (gVar 6) aNil)) (gC (.int 0))))) [some (rsD rs), some (di ps), some (fxD fx), some (dp ws), some (.int v), some (di told), some (.lst (us.map uD)), t7, t8, some (pr x), t10] = .ok false := by
      have a : gB (gCB m__law_shows_none (aCons (gVar 1) (aCons (gVar 0) (aCons (gVar 2) (aCons (gVar 3) aNil))))) [some (rsD rs), some (di ps), some (fxD fx), some (dp ws), some (.int v), some (di told), some (.lst (us.map uD)), t7, t8, some (pr x), t10] = .ok (fitB rs ws && decide (0 < BV (zer ps.length) rs fx ws)) := b_e ((cb4 rfl rfl rfl rfl).trans sn)
      cases q : (fitB rs ws && decide (0 < BV (zer ps.length) rs fx ws)) with
      | false => rw [q] at a; exact and_f a
      | true =>
        rw [q] at a
        have q2 := of_decide_eq_true ((Bool.and_eq_true _ _).mp q).2
        have ue : us = [] := by
          cases us with
          | nil => rfl
          | cons u us =>
            obtain ⟨u1, u2, u3, _⟩ := hu u List.mem_cons_self
            have m := mainB (qs := zer ps.length) h e zer_len hf u1 u2 u3
            rw [dot_zer] at m
            omega
        refine and_t a (b_e ((bin_e (len_e (g := uD) (xs := us) rfl) rfl).trans (dGt_i.trans ?_)))
        rw [ue]
        rfl
    rw [ev_skip t5]
    obtain ⟨y, cy, ec⟩ := lcloses_ok (v := v) (told := told) h e hq
    have xy : y = x := cn_eq cy cx
    rw [xy, hf, Bool.true_and] at ec
    have r6 : (gOrV (gNotV (gCB m__law_closes (aCons (gVar 1) (aCons (gVar 0) (aCons (gVar 2) (aCons (gVar 3) (aCons (gVar 4) (aCons (gVar 5) aNil)))))))) (gBin dEq (gCB dLen (aCons (gLc (gSeqI (gVar 6)) (gtName 7) (gB (gBin dLtD (gVar 7) (eTup (aCons (gVar 4) (aCons (gVar 5) aNil))))) (gC (.int 1)) [7]) aNil)) (gC (.int 0)))) [some (rsD rs), some (di ps), some (fxD fx), some (dp ws), some (.int v), some (di told), some (.lst (us.map uD)), t7, t8, some (pr x), t10] = .ok (.bl true) := by
      have a : gNotV (gCB m__law_closes (aCons (gVar 1) (aCons (gVar 0) (aCons (gVar 2) (aCons (gVar 3) (aCons (gVar 4) (aCons (gVar 5) aNil))))))) [some (rsD rs), some (di ps), some (fxD fx), some (dp ws), some (.int v), some (di told), some (.lst (us.map uD)), t7, t8, some (pr x), t10] = .ok (.bl (!clB v told fx x)) := notV_e ((cb6 rfl rfl rfl rfl rfl rfl).trans ec)
      cases q : clB v told fx x with
      | false => rw [q] at a; exact orV_t a
      | true =>
        rw [q] at a
        have k6 : (gLc (gSeqI (gVar 6)) (gtName 7) (gB (gBin dLtD (gVar 7) (eTup (aCons (gVar 4) (aCons (gVar 5) aNil))))) (gC (.int 1)) [7]) [some (rsD rs), some (di ps), some (fxD fx), some (dp ws), some (.int v), some (di told), some (.lst (us.map uD)), t7, t8, some (pr x), t10] = .ok (.lst ((us.filter fun u => decide (u.1 < v) || (!decide (v < u.1) && lexI u.2 told)).map fun _ => DV.int 1)) := ev_lc (seq_e (f := uD) (xs := us) rfl) (lenG (by omega)) (lcLoop_filt (f := fun _ => DV.int 1) fun u hu2 => lc_b (ρ1 := [some (rsD rs), some (di ps), some (fxD fx), some (dp ws), some (.int v), some (di told), some (.lst (us.map uD)), some (uD u), t8, some (pr x), t10]) rfl (b_e ((bin_e rfl (tup2 rfl rfl)).trans (lt_uD (by rw [ht]; exact (hu u hu2).1.1)))) rfl)
        rw [orV_f a, (bin_e (lenD_e (f := fun _ => DV.int 1) k6) rfl).trans dEq_i]
        rw [no_cnt fun u hu2 => by
          obtain ⟨u1, u2, u3, u4⟩ := hu u hu2
          exact closed h.fg (by rw [fl]; exact u1.1) (by rw [ht]; exact u1.1.symm) ⟨rfl, u1.2⟩ u3 (wl u hu2).1 q]
        rfl
    rw [ret_e r6]
    rfl
end
end M
end

/-! text B7 -/
section
set_option maxRecDepth 100000
set_option maxHeartbeats 4000000
namespace M
open PySem DL
section
variable {P X Y Z U : DV} {c : Str} {i : Int}
theorem x_case_bound (h : m_check_fixing [P, X] = .ex c (.int i)) : m_case_bound [P, X, Y] = .ex c (.int i) := by
  have st : startD 3 [P, X, Y] = [some P, some X, some Y] := rfl
  unfold m_case_bound runB b_case_bound
  rw [st, ev_seqE (drop_x ((cb2 rfl rfl).trans h))]
  rfl
theorem x_shows_none (h : m_check_fixing [P, X] = .ex c (.int i)) : m_shows_none [P, X, Y] = .ex c (.int i) := by
  have st : startD 3 [P, X, Y] = [some P, some X, some Y] := rfl
  unfold m_shows_none runB b_shows_none
  rw [st, ev_seqE (drop_x ((cb2 rfl rfl).trans h))]
  rfl
theorem x_closes (h : m_check_fixing [P, X] = .ex c (.int i)) : m_closes [P, X, Y, Z, U] = .ex c (.int i) := by
  have st : startD 6 [P, X, Y, Z, U] = [some P, some X, some Y, some Z, some U, none] := rfl
  unfold m_closes runB b_closes
  rw [st, ev_seqE (drop_x ((cb2 rfl rfl).trans h))]
  rfl
end
abbrev kd3 (a b c : Bool) (d : DV) : DV := .tup [.lst [.bl a, .bl b, .bl c], d]
theorem kd3_shw {a b c : Bool} {i : Int} (h : i.natAbs ≤ 10000000) : SH.Shw 2 52 (kd3 a b c (.int i)) := by
  refine SH.tup (k := 1) (w := 25) (ds := [.lst [.bl a, .bl b, .bl c], .int i]) fun d hd => ?_
  have hd : d = .lst [.bl a, .bl b, .bl c] ∨ d = .int i := by simpa only [List.mem_cons, List.not_mem_nil, or_false] using hd
  rcases hd with hd | hd <;> subst hd
  · refine (SH.lst (k := 0) (w := 0) fun d hd => ?_).mono (by decide) (by show (0 + 1) * 3 ≤ 25; decide)
    have hd : d = .bl a ∨ d = .bl b ∨ d = .bl c := by simpa only [List.mem_cons, List.not_mem_nil, or_false] using hd
    rcases hd with hd | hd | hd <;> subst hd <;> exact SH.bl
  · exact (SH.int h).mono (by decide) (Nat.le_refl _)
theorem ne_kd3 {a b c : Bool} {i : Int} (h : i.natAbs ≤ 10000000) : dNe (kd3 a b c (.int i)) (kd3 a b c (.int i)) = .ok (.bl false) := SH.ne_self (kd3_shw h) (by decide)
theorem eq_kd3 {a b c : Bool} {i : Int} (h : i.natAbs ≤ 10000000) : dEq (kd3 a b c (.int i)) (kd3 a b c (.int i)) = .ok (.bl true) := SH.eq_self (kd3_shw h) (by decide)
theorem kd3_e {a b c : Bool} {g : GE} {ρ : EnvD} {d : DV} (h : g ρ = .ok d) : eTup (aCons (eLst (aCons (gC (.bl a)) (aCons (gC (.bl b)) (aCons (gC (.bl c)) aNil)))) (aCons g aNil)) ρ = .ok (kd3 a b c d) := tup2 (lst3 rfl rfl rfl) h
def rB3 : GS := (gIfS (gB (gBin dEq (gVar 0) (gC (.int 0)))) (gDrop (gPure (gCB m_case_bound (aCons (gVar 1) (aCons (gVar 2) (aCons (gVar 3) aNil)))))) (gIfS (gB (gBin dEq (gVar 0) (gC (.int 1)))) (gDrop (gPure (gCB m_shows_none (aCons (gVar 1) (aCons (gVar 2) (aCons (gVar 3) aNil)))))) (gDrop (gPure (gCB m_closes (aCons (gVar 1) (aCons (gVar 2) (aCons (gVar 3) (aCons (gC (.int 0)) (aCons (eLst aNil) aNil))))))))))
theorem way0 {w z : Int} {ρ : EnvD} (h : lk ρ 0 = .ok (.int w)) : gB (gBin dEq (gVar 0) (gC (.int z))) ρ = .ok (decide (w = z)) := b_e ((bin_e h rfl).trans dEq_i)
section
variable {P X Y : DV} {c : Str} {i : Int}
theorem refused_of {w : Int} (b : rB3 [some (.int w), some P, some X, some Y, none] = .ex c (.int i)) : m__law_refused [.int w, P, X, Y] = .ok (kd3 (decide (c = "TooMany")) (decide (c = "WrongSize")) (decide (c = "BadFixing")) (.int i)) := by
  have st : startD 5 [.int w, P, X, Y] = [some (.int w), some P, some X, some Y, none] := rfl
  unfold m__law_refused runB b__law_refused
  rw [st, ev_seqR (d := kd3 (decide (c = "TooMany")) (decide (c = "WrongSize")) (decide (c = "BadFixing")) (.int i)) (ρ' := [none, none, none, none, none]) (by
    unfold rB3 at b
    unfold gTry
    rw [b]
    rfl)]
  rfl
theorem refused_ok {w : Int} (hw : 0 ≤ w ∧ w < 3) (h : m_check_fixing [P, X] = .ex c (.int i)) : m__law_refused [.int w, P, X, Y] = .ok (kd3 (decide (c = "TooMany")) (decide (c = "WrongSize")) (decide (c = "BadFixing")) (.int i)) := by
  refine refused_of ?_
  have hc : w = 0 ∨ w = 1 ∨ w = 2 := by omega
  unfold rB3
  rcases hc with z | z | z <;> subst z
  · rw [ev_ifS (way0 rfl)]
    exact drop_x ((cb3 rfl rfl rfl).trans (x_case_bound h))
  · rw [ev_ifS (way0 rfl), if_neg (by decide), ev_ifS (way0 rfl)]
    exact drop_x ((cb3 rfl rfl rfl).trans (x_shows_none h))
  · rw [ev_ifS (way0 rfl), if_neg (by decide), ev_ifS (way0 rfl), if_neg (by decide)]
    exact drop_x ((cb5 rfl rfl rfl rfl rfl).trans (x_closes h))
end
section
variable {ps : List Int} {rs : List Row} {fx : Fx} {ws : List (Int × Int)}
theorem chkP_ex (h : 16 < ps.length) : m_check_program [prg ps rs] = .ex "TooMany" (.int ps.length) := by
  have st : startD 1 [prg ps rs] = [some (prg ps rs)] := rfl
  have t : (gB (gBin dGt (gNX (gMeth "Program" "count" m_Program_count (gVar 0) aNil)) (gC (.int 16)))) [some (prg ps rs)] = .ok true := by
    rw [b_e ((bin_e (nx_e (meth_count rfl)) rfl).trans dGt_i), decide_eq_true (by omega)]
  unfold m_check_program runB b_check_program
  rw [st, ev_ifS t, if_pos rfl, raise_i (nx_e (meth_count rfl))]
  rfl
theorem chkF_many (h : 16 < ps.length) {X : DV} : m_check_fixing [prg ps rs, X] = .ex "TooMany" (.int ps.length) := by
  have st : startD 3 [prg ps rs, X] = [some (prg ps rs), some X, none] := rfl
  unfold m_check_fixing runB b_check_fixing
  rw [st, ev_seqE (drop_x ((cb1 rfl).trans (chkP_ex h)))]
  rfl
theorem chkF_size (h : ps.length ≤ 16) (hl : fx.length ≠ ps.length) : m_check_fixing [prg ps rs, fxD fx] = .ex "WrongSize" (.int 0) := by
  have st : startD 3 [prg ps rs, fxD fx] = [some (prg ps rs), some (fxD fx), none] := rfl
  have s0 : (gDrop (gPure (gCB m_check_program (aCons (gVar 0) aNil)))) [some (prg ps rs), some (fxD fx), none] = .nx [some (prg ps rs), some (fxD fx), none] := drop_e ((cb1 rfl).trans (chkP_ok h))
  have t1 : (gB (gBin dNe (gCB dLen (aCons (gVar 1) aNil)) (gNX (gMeth "Program" "count" m_Program_count (gVar 0) aNil)))) [some (prg ps rs), some (fxD fx), none] = .ok true := by
    rw [ne_e (len_e (g := fD) (xs := fx) rfl) (nx_e (meth_count rfl)), decide_eq_false (by omega)]
    rfl
  unfold m_check_fixing runB b_check_fixing
  rw [st, ev_seq s0, ev_stopE t1 (raise_i rfl)]
  rfl
def bdF (fx : Fx) (i : Nat) : Option Str := match fx.getD i none with
  | none => none
  | some b => if (decide (0 ≤ b) && decide (b ≤ 1)) = true then none else some (Str.ofString "BadFixing")
theorem chkF_bad (h : ps.length ≤ 16) (hl : fx.length = ps.length) {a : Nat} (ha : a < fx.length) (hb : ∀ j, j < a → bdF fx j = none) (hx : bdF fx a = some (Str.ofString "BadFixing")) : m_check_fixing [prg ps rs, fxD fx] = .ex "BadFixing" (.int (a : Int)) := by
  have st : startD 3 [prg ps rs, fxD fx] = [some (prg ps rs), some (fxD fx), none] := rfl
  have s0 : (gDrop (gPure (gCB m_check_program (aCons (gVar 0) aNil)))) [some (prg ps rs), some (fxD fx), none] = .nx [some (prg ps rs), some (fxD fx), none] := drop_e ((cb1 rfl).trans (chkP_ok h))
  have t1 : (gB (gBin dNe (gCB dLen (aCons (gVar 1) aNil)) (gNX (gMeth "Program" "count" m_Program_count (gVar 0) aNil)))) [some (prg ps rs), some (fxD fx), none] = .ok false := by
    rw [ne_e (len_e (g := fD) (xs := fx) rfl) (nx_e (meth_count rfl)), decide_eq_true (by omega)]
    rfl
  have z := forG_fst (tg := gtName 2) (b := (gIfS (gAnd (gB (gBin dNotN (gBin dIx (gVar 1) (gVar 2)) (gC .non))) (gNot (gB (gChain dLe dLe (gC (.int 0)) (gBin dIx (gVar 1) (gVar 2)) (gC (.int 1)))))) (gRaise "BadFixing" (aCons (gVar 2) aNil)) gNext)) (bd := bdF fx) (I := fun ρ => ∃ t2 : Option DV, ρ = [some (prg ps rs), some (fxD fx), t2]) (St := fun c k o => o = .ex c (.int (k : Int))) fx.length (fun c k o h => .inr ⟨_, _, h⟩) (fun i ρ hi hh => by
    obtain ⟨t2, rfl⟩ := hh
    have g : dIx (fxD fx) (.int ((0 : Int) + (i : Int))) = .ok (fD fx[i]) := dIx_g (g := fD) i (by omega) hi
    refine ⟨[some (prg ps rs), some (fxD fx), some (.int ((0 : Int) + (i : Int)))], rfl, ?_⟩
    have e : bdF fx i = match fx[i] with | none => none | some b => if (decide (0 ≤ b) && decide (b ≤ 1)) = true then none else some (Str.ofString "BadFixing") := by
      unfold bdF
      rw [getD_lt hi]
    rw [e]
    generalize fx[i] = f at g
    have n : gB (gBin dNotN (gBin dIx (gVar 1) (gVar 2)) (gC .non)) [some (prg ps rs), some (fxD fx), some (.int ((0 : Int) + (i : Int)))] = .ok f.isSome := b_e ((bin_e ((bin_e rfl rfl).trans g) rfl).trans (by cases f <;> rfl))
    cases f with
    | none => exact ⟨fun _ => ⟨_, (ev_ifS (and_f n)).trans rfl, _, rfl⟩, fun c hc => (by cases hc)⟩
    | some b =>
      have t := and_t n (not_e (b_e (chain_le (a := gC (.int 0)) (b := gBin dIx (gVar 1) (gVar 2)) (c := gC (.int 1)) (x := 0) (y := b) (z := 1) rfl ((bin_e rfl rfl).trans g) rfl)))
      dsimp only
      cases k : (decide (0 ≤ b) && decide (b ≤ 1)) with
      | true =>
        rw [k] at t
        exact ⟨fun _ => ⟨_, (ev_ifS t).trans rfl, _, rfl⟩, fun c hc => (by rw [if_pos rfl] at hc; cases hc)⟩
      | false =>
        rw [k] at t
        refine ⟨fun hc => (by rw [if_neg Bool.false_ne_true] at hc; cases hc), fun c hc => ?_⟩
        rw [if_neg Bool.false_ne_true] at hc
        cases hc
        show _ = Out.ex _ (.int (i : Int))
        rw [ev_ifS t, show (!false) = true from rfl, if_pos rfl, raise_i (i := (0 : Int) + (i : Int)) rfl, Int.zero_add]) fx.length 0 [some (prg ps rs), some (fxD fx), none] (by omega) ⟨_, rfl⟩
  have f1 := z.2 _ _ (fst_at (c := Str.ofString "BadFixing") (k := a) (fun j _ hj => hb j hj) hx (Nat.zero_le _) (by omega))
  have it : gRng1 (aCons (gCB dLen (aCons (gVar 1) aNil)) aNil) [some (prg ps rs), some (fxD fx), none] = .ok (rngD 0 fx.length) := rng1_e (len_e (g := fD) (xs := fx) rfl) rfl (by omega)
  unfold m_check_fixing runB b_check_fixing
  rw [st, ev_seq s0, ev_skip t1, ev_forX it (by rw [rngD_eq]; exact f1)]
  rfl
/-- a wrong number of multipliers, found late -/
theorem late_ex (h : Bd ps rs fx ws) {vs : List (Int × Int)} (e : vs.length ≠ rs.length) : m_case_bound [prg ps rs, fxD fx, dp vs] = .ex "WrongSize" (.int 0) := by
  have r5 := h.r5
  have st : startD 3 [prg ps rs, fxD fx, dp vs] = [some (prg ps rs), some (fxD fx), some (dp vs)] := rfl
  have s0 : (gDrop (gPure (gCB m_check_fixing (aCons (gVar 0) (aCons (gVar 1) aNil))))) [some (prg ps rs), some (fxD fx), some (dp vs)] = .nx [some (prg ps rs), some (fxD fx), some (dp vs)] := drop_e ((cb2 rfl rfl).trans (chkF_ok h))
  have st2 : startD 8 [prg ps rs, di ps, fxD fx, dp vs] = [some (prg ps rs), some (di ps), some (fxD fx), some (dp vs), none, none, none, none] := rfl
  have gz : (gZip3 (aCons (gVar 1) (aCons (gCB m_loads (aCons (gVar 0) (aCons (gVar 3) aNil))) (aCons (gVar 2) aNil)))) [some (prg ps rs), some (di ps), some (fxD fx), some (dp vs), none, none, none, none] = .ex "WrongSize" (.int 0) := by
    have a : (aCons (gVar 1) (aCons (gCB m_loads (aCons (gVar 0) (aCons (gVar 3) aNil))) (aCons (gVar 2) aNil))) [some (prg ps rs), some (di ps), some (fxD fx), some (dp vs), none, none, none, none] = .ex "WrongSize" (.int 0) := by
      rw [ev_cons, show gVar 1 _ = .ok (di ps) from rfl, ev_cons, (cb2 rfl rfl).trans (loads_ex (by omega) e)]
      try rfl
    unfold gZip3
    rw [a]
    try rfl
  have b : m_bound_of [prg ps rs, di ps, fxD fx, dp vs] = .ex "WrongSize" (.int 0) := by
    have k : (gAsg (gPure (gLc (gZip3 (aCons (gVar 1) (aCons (gCB m_loads (aCons (gVar 0) (aCons (gVar 3) aNil))) (aCons (gVar 2) aNil)))) (gtTup [5, 6, 7]) gYes (gNX (gCB m_least_part (aCons (gVar 5) (aCons (gVar 6) (aCons (gVar 7) aNil))))) [5, 6, 7])) (gtName 4)) [some (prg ps rs), some (di ps), some (fxD fx), some (dp vs), none, none, none, none] = .ex "WrongSize" (.int 0) := by
      have lc : (gLc (gZip3 (aCons (gVar 1) (aCons (gCB m_loads (aCons (gVar 0) (aCons (gVar 3) aNil))) (aCons (gVar 2) aNil)))) (gtTup [5, 6, 7]) gYes (gNX (gCB m_least_part (aCons (gVar 5) (aCons (gVar 6) (aCons (gVar 7) aNil))))) [5, 6, 7]) [some (prg ps rs), some (di ps), some (fxD fx), some (dp vs), none, none, none, none] = .ex "WrongSize" (.int 0) := by
        unfold gLc
        rw [gz]
        try rfl
      unfold gAsg
      rw [ev_pure, lc]
      try rfl
    unfold m_bound_of runB b_bound_of
    rw [st2, ev_seqE k]
    try rfl
  have c : (gRet (gPure (gCB m_bound_of (aCons (gVar 0) (aCons (gNX (gMeth "Program" "prices" m_Program_prices (gVar 0) aNil)) (aCons (gVar 1) (aCons (gVar 2) aNil))))))) [some (prg ps rs), some (fxD fx), some (dp vs)] = .ex "WrongSize" (.int 0) := by
    unfold gRet
    rw [ev_pure, (cb4 rfl (nx_e (meth_prices rfl)) rfl rfl).trans b]
    try rfl
  unfold m_case_bound runB b_case_bound
  rw [st, ev_seq s0, c]
  try rfl
def ones (n : Nat) : List Int := List.replicate n 1
theorem ones_len {n : Nat} : (ones n).length = n := List.length_replicate ..
def badX (fx : Fx) (a : Nat) (q : Int) : Fx := fx.take a ++ [some q] ++ fx.drop (a + 1)
theorem badX_len {a : Nat} {q : Int} (h : a < fx.length) : (badX fx a q).length = fx.length := by
  unfold badX
  rw [List.length_append, List.length_append, List.length_take, List.length_drop, List.length_singleton]
  omega
theorem badX_bd {a : Nat} {q : Int} (h : a < fx.length) (hg : FxG fx) (hq : q = 2 ∨ q = -1 ∨ q = 7) : (∀ j, j < a → bdF (badX fx a q) j = none) ∧ bdF (badX fx a q) a = some (Str.ofString "BadFixing") := by
  constructor
  · intro j hj
    have e : (badX fx a q).getD j none = fx.getD j none := by
      unfold badX
      rw [List.getD_eq_getElem?_getD, List.append_assoc, List.getElem?_append_left (by rw [List.length_take]; omega), List.getElem?_take, if_pos hj, ← List.getD_eq_getElem?_getD]
    unfold bdF
    rw [e, getD_lt (by omega)]
    rcases hg _ (List.getElem_mem (by omega : j < fx.length)) with z | z | z <;> rw [z] <;> rfl
  · have e : (badX fx a q).getD a none = some q := by
      unfold badX
      rw [List.getD_eq_getElem?_getD, List.append_assoc, List.getElem?_append_right (by rw [List.length_take]; omega), List.length_take, Nat.min_eq_left (by omega), Nat.sub_self]
      rfl
    unfold bdF
    rw [e]
    rcases hq with z | z | z <;> subst z <;> rfl
def kBd : GS := (gSeq (gIfS (gB (gBin dNe (gCB m__law_refused (aCons (gVar 7) (aCons (gVar 4) (aCons (gVar 6) (aCons (eLst aNil) aNil))))) (eTup (aCons (eLst (aCons (gC (.bl true)) (aCons (gC (.bl false)) (aCons (gC (.bl false)) aNil)))) (aCons (gMeth "Program" "count" m_Program_count (gVar 4) aNil) aNil))))) (gRet (gPure (gC (.bl false)))) gNext) (gSeq (gIfS (gB (gBin dNe (gCB m__law_refused (aCons (gVar 7) (aCons (gVar 1) (aCons (gBin dAdd (gVar 6) (eLst (aCons (gC (.int 5)) aNil))) (aCons (gVar 3) aNil))))) (eTup (aCons (eLst (aCons (gC (.bl false)) (aCons (gC (.bl true)) (aCons (gC (.bl false)) aNil)))) (aCons (gC (.int 0)) aNil))))) (gRet (gPure (gC (.bl false)))) gNext) (gIfS (gB (gBin dNe (gCB m__law_refused (aCons (gVar 7) (aCons (gVar 1) (aCons (gVar 6) (aCons (gBin dAdd (gVar 3) (eLst (aCons (eTup (aCons (gC (.int 1)) (aCons (gC (.int 1)) aNil))) aNil))) aNil))))) (eTup (aCons (eLst (aCons (gC (.bl false)) (aCons (gC (.bl false)) (aCons (gC (.bl true)) aNil)))) (aCons (gVar 5) aNil))))) (gRet (gPure (gC (.bl false)))) gNext)))
theorem k_turn {ys : List Int} {w : Int} {m a : Nat} {q : Int} (h : Bd ps rs fx ws) (e : ws.length = rs.length) (hw : 0 ≤ w ∧ w < 3) (hm : 16 < m) (hm2 : m ≤ 100) (ha : a < fx.length) (hq : q = 2 ∨ q = -1 ∨ q = 7) : kBd [some (di ys), some (prg ps rs), some (fxD fx), some (dp ws), some (prg (ones m) []), some (.int (a : Int)), some (fxD (badX fx a q)), some (.int w)] = .nx [some (di ys), some (prg ps rs), some (fxD fx), some (dp ws), some (prg (ones m) []), some (.int (a : Int)), some (fxD (badX fx a q)), some (.int w)] := by
  have n6 := h.n6
  have r5 := h.r5
  have fl := h.fl
  have bl := badX_len (q := q) ha
  have bb := badX_bd (q := q) ha h.fg hq
  have t1 : (gB (gBin dNe (gCB m__law_refused (aCons (gVar 7) (aCons (gVar 4) (aCons (gVar 6) (aCons (eLst aNil) aNil))))) (eTup (aCons (eLst (aCons (gC (.bl true)) (aCons (gC (.bl false)) (aCons (gC (.bl false)) aNil)))) (aCons (gMeth "Program" "count" m_Program_count (gVar 4) aNil) aNil))))) [some (di ys), some (prg ps rs), some (fxD fx), some (dp ws), some (prg (ones m) []), some (.int (a : Int)), some (fxD (badX fx a q)), some (.int w)] = .ok false := b_e ((bin_e ((cb4 rfl rfl rfl rfl).trans (refused_ok hw (chkF_many (ps := ones m) (rs := []) (by rw [ones_len]; exact hm)))) (kd3_e (meth_count (ps := ones m) (rs := []) rfl))).trans (ne_kd3 (by rw [ones_len]; omega)))
  have ap : gBin dAdd (gVar 6) (eLst (aCons (gC (.int 5)) aNil)) [some (di ys), some (prg ps rs), some (fxD fx), some (dp ws), some (prg (ones m) []), some (.int (a : Int)), some (fxD (badX fx a q)), some (.int w)] = .ok (fxD (badX fx a q ++ [some 5])) := (bin_e rfl (one_e (g := fD) (x := some 5) rfl)).trans (cat_e (g := fD) (by rw [bl, List.length_singleton]; omega))
  have t2 : (gB (gBin dNe (gCB m__law_refused (aCons (gVar 7) (aCons (gVar 1) (aCons (gBin dAdd (gVar 6) (eLst (aCons (gC (.int 5)) aNil))) (aCons (gVar 3) aNil))))) (eTup (aCons (eLst (aCons (gC (.bl false)) (aCons (gC (.bl true)) (aCons (gC (.bl false)) aNil)))) (aCons (gC (.int 0)) aNil))))) [some (di ys), some (prg ps rs), some (fxD fx), some (dp ws), some (prg (ones m) []), some (.int (a : Int)), some (fxD (badX fx a q)), some (.int w)] = .ok false := b_e ((bin_e ((cb4 rfl rfl ap rfl).trans (refused_ok hw (chkF_size (by omega) (by rw [List.length_append, bl, List.length_singleton]; omega)))) (kd3_e rfl)).trans (ne_kd3 (by decide)))
  have aw : gBin dAdd (gVar 3) (eLst (aCons (eTup (aCons (gC (.int 1)) (aCons (gC (.int 1)) aNil))) aNil)) [some (di ys), some (prg ps rs), some (fxD fx), some (dp ws), some (prg (ones m) []), some (.int (a : Int)), some (fxD (badX fx a q)), some (.int w)] = .ok (dp (ws ++ [(1, 1)])) := (bin_e rfl (one_e (g := pr) (x := (1, 1)) rfl)).trans (cat_e (g := pr) (ys := [(1, 1)]) (by rw [List.length_singleton]; omega))
  have t3 : (gB (gBin dNe (gCB m__law_refused (aCons (gVar 7) (aCons (gVar 1) (aCons (gVar 6) (aCons (gBin dAdd (gVar 3) (eLst (aCons (eTup (aCons (gC (.int 1)) (aCons (gC (.int 1)) aNil))) aNil))) aNil))))) (eTup (aCons (eLst (aCons (gC (.bl false)) (aCons (gC (.bl false)) (aCons (gC (.bl true)) aNil)))) (aCons (gVar 5) aNil))))) [some (di ys), some (prg ps rs), some (fxD fx), some (dp ws), some (prg (ones m) []), some (.int (a : Int)), some (fxD (badX fx a q)), some (.int w)] = .ok false := b_e ((bin_e ((cb4 rfl rfl rfl aw).trans (refused_ok hw (chkF_bad (by omega) (by omega) (by omega) bb.1 bb.2))) (kd3_e rfl)).trans (ne_kd3 (by omega)))
  unfold kBd
  rw [ev_skip t1, ev_skip t2, ev_ifS t3]
  rfl
theorem refusals_ok {ys : List Int} (hy : ys.length = 10) (h : Bd ps rs fx ws) (e : ws.length = rs.length) : m__law_refusals [di ys, prg ps rs, fxD fx, dp ws] = .ok (.bl true) := by
  have n6 := h.n6
  have n1 := h.n1
  have r5 := h.r5
  have fl := h.fl
  have st : startD 8 [di ys, prg ps rs, fxD fx, dp ws] = [some (di ys), some (prg ps rs), some (fxD fx), some (dp ws), none, none, none, none] := rfl
  have ix0 : dIx (di ys) (.int 0) = .ok (.int (ys.getD (0 : Int).toNat 0)) := ixz (by decide) (by rw [hy]; decide)
  have ix1 : dIx (di ys) (.int 1) = .ok (.int (ys.getD (1 : Int).toNat 0)) := ixz (by decide) (by rw [hy]; decide)
  have ix2 : dIx (di ys) (.int 2) = .ok (.int (ys.getD (2 : Int).toNat 0)) := ixz (by decide) (by rw [hy]; decide)
  obtain ⟨m, em⟩ : ∃ m : Nat, 17 + ys.getD (0 : Int).toNat 0 % 9 = (m : Int) := ⟨(17 + ys.getD (0 : Int).toNat 0 % 9).toNat, by omega⟩
  obtain ⟨a, ea, al⟩ : ∃ a : Nat, ys.getD (1 : Int).toNat 0 % (fx.length : Int) = (a : Int) ∧ a < fx.length := by
    have h1 := Int.emod_nonneg (ys.getD (1 : Int).toNat 0) (by omega : (fx.length : Int) ≠ 0)
    have h2 := Int.emod_lt_of_pos (ys.getD (1 : Int).toNat 0) (by omega : (0 : Int) < (fx.length : Int))
    exact ⟨(ys.getD (1 : Int).toNat 0 % (fx.length : Int)).toNat, by omega, by omega⟩
  have rp : gBin dRep (eLst (aCons (gC (.int 1)) aNil)) (gBin dAdd (gC (.int 17)) (gBin dMod (gCB dInt (aCons (gBin dIx (gVar 0) (gC (.int 0))) aNil)) (gC (.int 9)))) [some (di ys), some (prg ps rs), some (fxD fx), some (dp ws), none, none, none, none] = .ok (di (ones m)) := (bin_e (one_e (g := DV.int) (x := 1) rfl) ((bin_e rfl ((bin_e ((cb1 ((bin_e rfl rfl).trans ix0)).trans dInt_i) rfl).trans (dMod_i (by decide)))).trans dAdd_i)).trans (rep_g em (by omega))
  have s0 : (gAsg (gPure (gCB m_Program___init__ (aCons (gBin dRep (eLst (aCons (gC (.int 1)) aNil)) (gBin dAdd (gC (.int 17)) (gBin dMod (gCB dInt (aCons (gBin dIx (gVar 0) (gC (.int 0))) aNil)) (gC (.int 9))))) (aCons (eLst aNil) aNil)))) (gtName 4)) [some (di ys), some (prg ps rs), some (fxD fx), some (dp ws), none, none, none, none] = .nx [some (di ys), some (prg ps rs), some (fxD fx), some (dp ws), some (prg (ones m) []), none, none, none] := set_e ((cb2 (y := rsD []) rp rfl).trans (init_ok (ps := ones m) (rs := []) (by rw [ones_len]; omega) (by rw [ones_len]; omega) (by decide) (fun r hr => by cases hr)))
  have s1 : (gAsg (gPure (gBin dMod (gCB dInt (aCons (gBin dIx (gVar 0) (gC (.int 1))) aNil)) (gCB dLen (aCons (gVar 2) aNil)))) (gtName 5)) [some (di ys), some (prg ps rs), some (fxD fx), some (dp ws), some (prg (ones m) []), none, none, none] = .nx [some (di ys), some (prg ps rs), some (fxD fx), some (dp ws), some (prg (ones m) []), some (.int (a : Int)), none, none] := by
    rw [← ea]
    exact set_e ((bin_e ((cb1 ((bin_e rfl rfl).trans ix1)).trans dInt_i) (len_e (g := fD) (xs := fx) rfl)).trans (dMod_i (by omega)))
  obtain ⟨q, hq, eq⟩ : ∃ q : Int, (q = 2 ∨ q = -1 ∨ q = 7) ∧ (gBin dIx (eLst (aCons (gC (.int 2)) (aCons (gUn dNeg (gC (.int 1))) (aCons (gC (.int 7)) aNil)))) (gBin dMod (gCB dInt (aCons (gBin dIx (gVar 0) (gC (.int 2))) aNil)) (gC (.int 3)))) [some (di ys), some (prg ps rs), some (fxD fx), some (dp ws), some (prg (ones m) []), some (.int (a : Int)), none, none] = .ok (.int q) := by
    have l : eLst (aCons (gC (.int 2)) (aCons (gUn dNeg (gC (.int 1))) (aCons (gC (.int 7)) aNil))) [some (di ys), some (prg ps rs), some (fxD fx), some (dp ws), some (prg (ones m) []), some (.int (a : Int)), none, none] = .ok (.lst [.int 2, .int (-1), .int 7]) := lst3 rfl rfl rfl
    have y : gBin dMod (gCB dInt (aCons (gBin dIx (gVar 0) (gC (.int 2))) aNil)) (gC (.int 3)) [some (di ys), some (prg ps rs), some (fxD fx), some (dp ws), some (prg (ones m) []), some (.int (a : Int)), none, none] = .ok (.int (ys.getD (2 : Int).toNat 0 % 3)) := (bin_e ((cb1 ((bin_e rfl rfl).trans ix2)).trans dInt_i) rfl).trans (dMod_i (by decide))
    have c : ys.getD (2 : Int).toNat 0 % 3 = 0 ∨ ys.getD (2 : Int).toNat 0 % 3 = 1 ∨ ys.getD (2 : Int).toNat 0 % 3 = 2 := by omega
    rcases c with c | c | c <;> rw [c] at y
    · exact ⟨2, .inl rfl, (bin_e l y).trans rfl⟩
    · exact ⟨-1, .inr (.inl rfl), (bin_e l y).trans rfl⟩
    · exact ⟨7, .inr (.inr rfl), (bin_e l y).trans rfl⟩
  have tk := slT_e (g := fD) (xs := fx) (a := gVar 2) (b := gVar 5) (ρ := [some (di ys), some (prg ps rs), some (fxD fx), some (dp ws), some (prg (ones m) []), some (.int (a : Int)), none, none]) (z := (a : Int)) rfl rfl (by omega)
  have dr := slF_e (g := fD) (xs := fx) (a := gVar 2) (b := gBin dAdd (gVar 5) (gC (.int 1))) (ρ := [some (di ys), some (prg ps rs), some (fxD fx), some (dp ws), some (prg (ones m) []), some (.int (a : Int)), none, none]) (z := (a : Int) + 1) rfl ((bin_e rfl rfl).trans dAdd_i) (by omega)
  rw [show ((a : Int)).toNat = a by omega] at tk
  rw [show ((a : Int) + 1).toNat = a + 1 by omega] at dr
  have c1 : gBin dAdd (gSl (gVar 2) gNoPart (gPart (gVar 5))) (eLst (aCons (gBin dIx (eLst (aCons (gC (.int 2)) (aCons (gUn dNeg (gC (.int 1))) (aCons (gC (.int 7)) aNil)))) (gBin dMod (gCB dInt (aCons (gBin dIx (gVar 0) (gC (.int 2))) aNil)) (gC (.int 3)))) aNil)) [some (di ys), some (prg ps rs), some (fxD fx), some (dp ws), some (prg (ones m) []), some (.int (a : Int)), none, none] = .ok (.lst ((fx.take a ++ [some q]).map fD)) := (bin_e tk (one_e (g := fD) (x := some q) eq)).trans (cat_e (g := fD) (by rw [List.length_take, List.length_singleton]; omega))
  have s2 : (gAsg (gPure (gBin dAdd (gBin dAdd (gSl (gVar 2) gNoPart (gPart (gVar 5))) (eLst (aCons (gBin dIx (eLst (aCons (gC (.int 2)) (aCons (gUn dNeg (gC (.int 1))) (aCons (gC (.int 7)) aNil)))) (gBin dMod (gCB dInt (aCons (gBin dIx (gVar 0) (gC (.int 2))) aNil)) (gC (.int 3)))) aNil))) (gSl (gVar 2) (gPart (gBin dAdd (gVar 5) (gC (.int 1)))) gNoPart))) (gtName 6)) [some (di ys), some (prg ps rs), some (fxD fx), some (dp ws), some (prg (ones m) []), some (.int (a : Int)), none, none] = .nx [some (di ys), some (prg ps rs), some (fxD fx), some (dp ws), some (prg (ones m) []), some (.int (a : Int)), some (fxD (badX fx a q)), none] := set_e ((bin_e c1 dr).trans (cat_e (g := fD) (by rw [List.length_append, List.length_take, List.length_drop, List.length_singleton]; omega)))
  obtain ⟨ρ', f1, t7, e7⟩ := forG_rngB (tg := gtName 7) (b := kBd) 3 (fun _ ρ => ∃ t7 : Option DV, ρ = [some (di ys), some (prg ps rs), some (fxD fx), some (dp ws), some (prg (ones m) []), some (.int (a : Int)), some (fxD (badX fx a q)), t7]) (fun i ρ hi hh => by
    obtain ⟨t7, rfl⟩ := hh
    exact ⟨_, _, rfl, k_turn (ys := ys) (w := (0 : Int) + (i : Int)) (m := m) h e (by omega) (by omega) (by omega) al hq, _, rfl⟩) 3 0 [some (di ys), some (prg ps rs), some (fxD fx), some (dp ws), some (prg (ones m) []), some (.int (a : Int)), some (fxD (badX fx a q)), none] (by omega) ⟨_, rfl⟩
  have s3 : gFor (gRng1 (aCons (gC (.int 3)) aNil)) (gtName 7) kBd [some (di ys), some (prg ps rs), some (fxD fx), some (dp ws), some (prg (ones m) []), some (.int (a : Int)), some (fxD (badX fx a q)), none] = .nx ρ' := ev_for (rng1_e (i := 3) (n := 3) rfl rfl (by omega)) (by rw [rngD_eq]; exact f1)
  have aw : gBin dAdd (gVar 3) (eLst (aCons (eTup (aCons (gC (.int 0)) (aCons (gC (.int 1)) aNil))) aNil)) [some (di ys), some (prg ps rs), some (fxD fx), some (dp ws), some (prg (ones m) []), some (.int (a : Int)), some (fxD (badX fx a q)), t7] = .ok (dp (ws ++ [(0, 1)])) := (bin_e rfl (one_e (g := pr) (x := (0, 1)) rfl)).trans (cat_e (g := pr) (ys := [(0, 1)]) (by rw [List.length_singleton]; omega))
  have lt : m__law_refused [.int 0, prg ps rs, fxD fx, dp (ws ++ [(0, 1)])] = .ok (kd3 false true false (.int 0)) := refused_of (w := 0) (c := "WrongSize") (by
    unfold rB3
    rw [ev_ifS (way0 rfl)]
    exact drop_x ((cb3 rfl rfl rfl).trans (late_ex h (by rw [List.length_append, List.length_singleton]; omega))))
  unfold m__law_refusals runB b__law_refusals
  rw [st, ev_seq s0, ev_seq s1, ev_seq s2]
  show finB (gSeq (gFor _ _ kBd) _ _) = _
  rw [ev_seq s3, e7, ret_e ((bin_e ((cb4 rfl rfl rfl aw).trans lt) (kd3_e rfl)).trans (eq_kd3 (by decide)))]
  rfl
end
end M
end

/-! text Law -/
section
set_option maxRecDepth 100000
set_option maxHeartbeats 4000000
namespace M
open PySem DL
theorem lcLoop_ex {α : Type} {h : DV → Rs (Option DV)} {g : α → DV} {Pw : Int × Int → Prop} : ∀ {xs : List α}, (∀ x ∈ xs, ∃ w, Pw w ∧ h (g x) = .ok (some (pr w))) → ∃ ws : List (Int × Int), ws.length = xs.length ∧ (∀ w ∈ ws, Pw w) ∧ lcLoop h (xs.map g) = .ok (ws.map pr)
  | [], _ => ⟨[], rfl, fun w hw => (by simp at hw), rfl⟩
  | x :: xs, k => by
    obtain ⟨w, p, e⟩ := k x List.mem_cons_self
    obtain ⟨ws, l, q, e2⟩ := lcLoop_ex (xs := xs) fun y hy => k y (List.mem_cons_of_mem _ hy)
    refine ⟨w :: ws, by rw [List.length_cons, List.length_cons, l], fun v hv => ?_, ?_⟩
    · rcases List.mem_cons.mp hv with z | z
      · rw [z]; exact p
      · exact q v z
    · rw [List.map_cons]
      unfold lcLoop
      rw [e]
      dsimp only [Rs.bind]
      rw [e2]
      rfl
theorem some_ok {xs : List Int} {k : Int} (hl : xs.length = 260) (hk : 0 ≤ k) : ∃ w : Int × Int, m__law_some [di xs, .int 160, .int k] = .ok (pr w) ∧ Wt w := by
  have st : startD 3 [di xs, .int 160, .int k] = [some (di xs), some (.int 160), some (.int k)] := rfl
  have i1 : dIx (di xs) (.int (160 + k % 30)) = .ok (.int (xs.getD (160 + k % 30).toNat 0)) := ixz (by omega) (by omega)
  have i2 : dIx (di xs) (.int (160 + (k + 5) % 30)) = .ok (.int (xs.getD (160 + (k + 5) % 30).toNat 0)) := ixz (by omega) (by omega)
  generalize xs.getD (160 + k % 30).toNat 0 = a at i1
  generalize xs.getD (160 + (k + 5) % 30).toNat 0 = b at i2
  have q : 1 + b / 9 % 3 ≠ 0 := by omega
  have e : (gCB m__law_lowest (aCons (gBin dSub (gBin dMod (gCB dInt (aCons (gBin dIx (gVar 0) (gBin dAdd (gVar 1) (gBin dMod (gCB dInt (aCons (gVar 2) aNil)) (gC (.int 30))))) aNil)) (gC (.int 9))) (gC (.int 3))) (aCons (gBin dAdd (gC (.int 1)) (gBin dMod (gBin dDiv (gCB dInt (aCons (gBin dIx (gVar 0) (gBin dAdd (gVar 1) (gBin dMod (gCB dInt (aCons (gBin dAdd (gVar 2) (gC (.int 5))) aNil)) (gC (.int 30))))) aNil)) (gC (.int 9))) (gC (.int 3)))) aNil))) [some (di xs), some (.int 160), some (.int k)] = .ok (pr (low (a % 9 - 3) (1 + b / 9 % 3))) := (cb2 ((bin_e ((bin_e ((cb1 ((bin_e rfl ((bin_e rfl ((bin_e ((cb1 rfl).trans dInt_i) rfl).trans (dMod_i (by decide)))).trans dAdd_i)).trans i1)).trans dInt_i) rfl).trans (dMod_i (by decide))) rfl).trans dSub_i) ((bin_e rfl ((bin_e ((bin_e ((cb1 ((bin_e rfl ((bin_e rfl ((bin_e ((cb1 ((bin_e rfl rfl).trans dAdd_i)).trans dInt_i) rfl).trans (dMod_i (by decide)))).trans dAdd_i)).trans i2)).trans dInt_i) rfl).trans (dDiv_s (by decide) (by decide))) rfl).trans (dMod_i (by decide)))).trans dAdd_i)).trans (lowest_ok q (Nat.lt_of_lt_of_le (by omega : (1 + b / 9 % 3).natAbs < 2 ^ 2) (Nat.pow_le_pow_right (by decide) (by decide))))
  refine ⟨low (a % 9 - 3) (1 + b / 9 % 3), ?_, ?_⟩
  · unfold m__law_some runB b__law_some
    rw [st, ret_e e]
    rfl
  · have l := low_le (p := a % 9 - 3) q
    have p := low_pos (p := a % 9 - 3) q
    exact ⟨by omega, by omega, by omega⟩
theorem fix4 {y : Int} : ∃ f : Option Int, (f = none ∨ f = some 0 ∨ f = some 1) ∧ dIx (.lst [.int 0, .int 1, .non, .non]) (.int (y % 4)) = .ok (fD f) := by
  have c : y % 4 = 0 ∨ y % 4 = 1 ∨ y % 4 = 2 ∨ y % 4 = 3 := by omega
  rcases c with c | c | c | c <;> rw [c]
  · exact ⟨some 0, .inr (.inl rfl), rfl⟩
  · exact ⟨some 1, .inr (.inr rfl), rfl⟩
  · exact ⟨none, .inl rfl, rfl⟩
  · exact ⟨none, .inl rfl, rfl⟩
theorem lcLoop_of {β : Type} {f : β → DV} {P : β → Prop} {h : DV → Rs (Option DV)} : ∀ {xs : List Int}, (∀ x ∈ xs, ∃ y, P y ∧ h (.int x) = .ok (some (f y))) → ∃ ys : List β, ys.length = xs.length ∧ (∀ y ∈ ys, P y) ∧ lcLoop h (xs.map DV.int) = .ok (ys.map f)
  | [], _ => ⟨[], rfl, fun y hy => (by cases hy), rfl⟩
  | x :: xs, k => by
    obtain ⟨y, hy, e⟩ := k x List.mem_cons_self
    obtain ⟨ys, l, hp, e2⟩ := lcLoop_of (xs := xs) fun z hz => k z (List.mem_cons_of_mem _ hz)
    refine ⟨y :: ys, by rw [List.length_cons, List.length_cons, l], fun z hz => ?_, ?_⟩
    · rcases List.mem_cons.mp hz with q | q
      · rw [q]; exact hy
      · exact hp z q
    · rw [List.map_cons, List.map_cons]
      unfold lcLoop
      rw [e]
      show (lcLoop h (xs.map DV.int)).bind _ = _
      rw [e2]
      rfl
theorem lc_of {β : Type} {f : β → DV} {gi : GI} {tg : GG} {gt : GT} {ge : GE} {vs : List Nat} {ρ : EnvD} {n : Nat} {P : β → Prop} (hi : gi ρ = .ok ((intL n).map DV.int)) (hn : n ≤ 1000) (h : ∀ o, 0 ≤ o → o < (n : Int) → ∃ y, P y ∧ lcTurn tg gt ge (wipeD ρ vs) (.int o) = .ok (some (f y))) : ∃ ys : List β, ys.length = n ∧ (∀ y ∈ ys, P y) ∧ gLc gi tg gt ge vs ρ = .ok (.lst (ys.map f)) := by
  obtain ⟨ys, l, hp, e⟩ := lcLoop_of (f := f) (P := P) (xs := intL n) (h := lcTurn tg gt ge (wipeD ρ vs)) fun o ho => h o (mem_ints.mp ho).1 (mem_ints.mp ho).2
  exact ⟨ys, by rw [l, ints_len], hp, ev_lc hi (lenG (by rw [ints_len]; exact hn)) e⟩
section
variable {ns xs ps told : List Int} {rs : List Row} {fx : Fx} {ws : List (Int × Int)} {i : Nat} {v : Int} {t7 t8 t9 t10 t11 t12 t13 t14 t15 t16 : Option DV}
theorem fx_ok (hl : xs.length = 260) (n6 : ps.length ≤ 6) (hi : i < 6) : ∃ fx : Fx, fx.length = ps.length ∧ FxG fx ∧ (gLc (gRng1 (aCons (gVar 2) aNil)) (gtName 9) gYes (gBin dIx (eLst (aCons (gC (.int 0)) (aCons (gC (.int 1)) (aCons (gC .non) (aCons (gC .non) aNil))))) (gBin dMod (gCB dInt (aCons (gBin dIx (gVar 1) (gBin dAdd (gVar 7) (gVar 9))) aNil)) (gC (.int 4)))) [9]) [some (di ns), some (di xs), some (.int (ps.length : Int)), some (di ps), some (rsD rs), some (prg ps rs), some (.int ((0 : Int) + (i : Int))), some (.int (100 + 8 * ((0 : Int) + (i : Int)))), t8, t9, t10, t11, t12, t13, t14, t15, t16] = .ok (fxD fx) := by
  refine lc_of (f := fD) (P := fun f => f = none ∨ f = some 0 ∨ f = some 1) (rng_ints (i := (ps.length : Int)) rfl rfl (by omega)) (by omega) fun o o0 on => ?_
  obtain ⟨f, hf, e⟩ := fix4 (y := xs.getD (100 + 8 * ((0 : Int) + (i : Int)) + o).toNat 0)
  exact ⟨f, hf, lc_yes (ρ1 := [some (di ns), some (di xs), some (.int (ps.length : Int)), some (di ps), some (rsD rs), some (prg ps rs), some (.int ((0 : Int) + (i : Int))), some (.int (100 + 8 * ((0 : Int) + (i : Int)))), t8, some (.int o), t10, t11, t12, t13, t14, t15, t16]) rfl rfl ((bin_e (lst4 rfl rfl rfl rfl) ((bin_e ((cb1 ((bin_e rfl ((bin_e rfl rfl).trans dAdd_i)).trans (ixz (by omega) (by omega)))).trans dInt_i) rfl).trans (dMod_i (by decide)))).trans e)⟩
theorem ws_ok (hl : xs.length = 260) (r5 : rs.length ≤ 5) (hi : i < 6) : ∃ ws : List (Int × Int), ws.length = rs.length ∧ (∀ w ∈ ws, Wt w) ∧ (gLc (gRng1 (aCons (gCB dLen (aCons (gVar 4) aNil)) aNil)) (gtName 11) gYes (gCB m__law_some (aCons (gVar 1) (aCons (gC (.int 160)) (aCons (gBin dAdd (gBin dMul (gC (.int 3)) (gVar 6)) (gVar 11)) aNil)))) [11]) [some (di ns), some (di xs), some (.int (ps.length : Int)), some (di ps), some (rsD rs), some (prg ps rs), some (.int ((0 : Int) + (i : Int))), some (.int (100 + 8 * ((0 : Int) + (i : Int)))), some (fxD fx), t9, t10, t11, t12, t13, t14, t15, t16] = .ok (dp ws) := by
  refine lc_of (f := pr) (P := Wt) (rng_ints (n := rs.length) (len_e (g := rowD) (xs := rs) rfl) rfl (by omega)) (by omega) fun o o0 on => ?_
  have m1 : mulOk 3 ((0 : Int) + (i : Int)) = true := mulT (by decide)
  obtain ⟨w, e, hw⟩ := some_ok (k := 3 * ((0 : Int) + (i : Int)) + o) hl (by omega)
  exact ⟨w, hw, lc_yes (ρ1 := [some (di ns), some (di xs), some (.int (ps.length : Int)), some (di ps), some (rsD rs), some (prg ps rs), some (.int ((0 : Int) + (i : Int))), some (.int (100 + 8 * ((0 : Int) + (i : Int)))), some (fxD fx), t9, t10, some (.int o), t12, t13, t14, t15, t16]) rfl rfl ((cb3 rfl rfl ((bin_e ((bin_e rfl rfl).trans (dMul_i m1)) rfl).trans dAdd_i)).trans e)⟩
theorem told_ok (hl : xs.length = 260) (n6 : ps.length ≤ 6) (hi : i < 6) : ∃ told : List Int, told.length = ps.length ∧ (∀ b ∈ told, b = 0 ∨ b = 1) ∧ (gLc (gRng1 (aCons (gVar 2) aNil)) (gtName 9) gYes (gBin dMod (gCB dInt (aCons (gBin dIx (gVar 1) (gBin dAdd (gBin dAdd (gC (.int 200)) (gVar 6)) (gVar 9))) aNil)) (gC (.int 2))) [9]) [some (di ns), some (di xs), some (.int (ps.length : Int)), some (di ps), some (rsD rs), some (prg ps rs), some (.int ((0 : Int) + (i : Int))), some (.int (100 + 8 * ((0 : Int) + (i : Int)))), some (fxD fx), t9, some (dp ws), t11, t12, t13, t14, t15, t16] = .ok (di told) := by
  refine lc_of (f := DV.int) (P := fun b => b = 0 ∨ b = 1) (rng_ints (i := (ps.length : Int)) rfl rfl (by omega)) (by omega) fun o o0 on => ?_
  exact ⟨xs.getD (200 + ((0 : Int) + (i : Int)) + o).toNat 0 % 2, by omega, lc_yes (ρ1 := [some (di ns), some (di xs), some (.int (ps.length : Int)), some (di ps), some (rsD rs), some (prg ps rs), some (.int ((0 : Int) + (i : Int))), some (.int (100 + 8 * ((0 : Int) + (i : Int)))), some (fxD fx), some (.int o), some (dp ws), t11, t12, t13, t14, t15, t16]) rfl rfl ((bin_e ((cb1 ((bin_e rfl ((bin_e ((bin_e rfl rfl).trans dAdd_i) rfl).trans dAdd_i)).trans (ixz (by omega) (by omega)))).trans dInt_i) rfl).trans (dMod_i (by decide)))⟩
theorem abs_i {z : Int} : dAbs [.int z] = .ok (.int (if z < 0 then -z else z)) := rfl
def sgB : GS := (gSeq (gAsg (gPure (gBin dIx (eLst (aCons (gC (.int 1)) (aCons (gUn dNeg (gC (.int 1))) aNil))) (gCB dInt (aCons (gBin dEq (gBin dIx (gBin dIx (gVar 4) (gVar 11)) (gC (.int 1))) (gC (.str (Str.ofString "most")))) aNil)))) (gtName 12)) (gSetI 10 (gVar 11) (gPure (eTup (aCons (gBin dMul (gVar 12) (gCB dAbs (aCons (gBin dIx (gBin dIx (gVar 10) (gVar 11)) (gC (.int 0))) aNil))) (aCons (gBin dIx (gBin dIx (gVar 10) (gVar 11)) (gC (.int 1))) aNil))))))
theorem sg_turn {k : Nat} (r5 : rs.length ≤ 5) (hg : ∀ r ∈ rs, Gr ps.length r) (hk : k < rs.length) (e : ws.length = rs.length) (hw : ∀ w ∈ ws, Wt w) : ∃ (ws' : List (Int × Int)) (u12 : Option DV), sgB [some (di ns), some (di xs), some (.int (ps.length : Int)), some (di ps), some (rsD rs), some (prg ps rs), some (.int ((0 : Int) + (i : Int))), some (.int (100 + 8 * ((0 : Int) + (i : Int)))), some (fxD fx), t9, some (dp ws), some (.int ((0 : Int) + (k : Int))), t12, t13, t14, t15, t16] = .nx [some (di ns), some (di xs), some (.int (ps.length : Int)), some (di ps), some (rsD rs), some (prg ps rs), some (.int ((0 : Int) + (i : Int))), some (.int (100 + 8 * ((0 : Int) + (i : Int)))), some (fxD fx), t9, some (dp ws'), some (.int ((0 : Int) + (k : Int))), u12, t13, t14, t15, t16] ∧ ws'.length = rs.length ∧ ∀ w ∈ ws', Wt w := by
  have gr : dIx (rsD rs) (.int ((0 : Int) + (k : Int))) = .ok (rowD rs[k]) := dIx_g (g := rowD) k (by omega) hk
  have gw : dIx (dp ws) (.int ((0 : Int) + (k : Int))) = .ok (pr (ws[k]'(by omega))) := dIx_g (g := pr) k (by omega) (by omega)
  have hr := (hg _ (List.getElem_mem hk)).2.2.2
  have wt := hw _ (List.getElem_mem (by omega : k < ws.length))
  generalize rs[k] = r at gr hr
  generalize ws[k]'(by omega) = w at gw wt
  have l2 : eLst (aCons (gC (.int 1)) (aCons (gUn dNeg (gC (.int 1))) aNil)) [some (di ns), some (di xs), some (.int (ps.length : Int)), some (di ps), some (rsD rs), some (prg ps rs), some (.int ((0 : Int) + (i : Int))), some (.int (100 + 8 * ((0 : Int) + (i : Int)))), some (fxD fx), t9, some (dp ws), some (.int ((0 : Int) + (k : Int))), t12, t13, t14, t15, t16] = .ok (.lst [.int 1, .int (-1)]) := lst2 rfl rfl
  obtain ⟨g, hg2, s0⟩ : ∃ g : Int, (g = 1 ∨ g = -1) ∧ (gAsg (gPure (gBin dIx (eLst (aCons (gC (.int 1)) (aCons (gUn dNeg (gC (.int 1))) aNil))) (gCB dInt (aCons (gBin dEq (gBin dIx (gBin dIx (gVar 4) (gVar 11)) (gC (.int 1))) (gC (.str (Str.ofString "most")))) aNil)))) (gtName 12)) [some (di ns), some (di xs), some (.int (ps.length : Int)), some (di ps), some (rsD rs), some (prg ps rs), some (.int ((0 : Int) + (i : Int))), some (.int (100 + 8 * ((0 : Int) + (i : Int)))), some (fxD fx), t9, some (dp ws), some (.int ((0 : Int) + (k : Int))), t12, t13, t14, t15, t16] = .nx [some (di ns), some (di xs), some (.int (ps.length : Int)), some (di ps), some (rsD rs), some (prg ps rs), some (.int ((0 : Int) + (i : Int))), some (.int (100 + 8 * ((0 : Int) + (i : Int)))), some (fxD fx), t9, some (dp ws), some (.int ((0 : Int) + (k : Int))), some (.int g), t13, t14, t15, t16] := by
    have b : (gCB dInt (aCons (gBin dEq (gBin dIx (gBin dIx (gVar 4) (gVar 11)) (gC (.int 1))) (gC (.str (Str.ofString "most")))) aNil)) [some (di ns), some (di xs), some (.int (ps.length : Int)), some (di ps), some (rsD rs), some (prg ps rs), some (.int ((0 : Int) + (i : Int))), some (.int (100 + 8 * ((0 : Int) + (i : Int)))), some (fxD fx), t9, some (dp ws), some (.int ((0 : Int) + (k : Int))), t12, t13, t14, t15, t16] = .ok (.int (if decide (r.r = Str.ofString "most") = true then 1 else 0)) := (cb1 ((bin_e ((bin_e ((bin_e rfl rfl).trans gr) rfl).trans ix3_1) rfl).trans (eq_most hr))).trans dInt_b
    cases c : decide (r.r = Str.ofString "most") with
    | true => rw [c] at b; exact ⟨-1, .inr rfl, set_e ((bin_e l2 b).trans rfl)⟩
    | false => rw [c] at b; exact ⟨1, .inl rfl, set_e ((bin_e l2 b).trans rfl)⟩
  have m1 : mulOk g (if w.1 < 0 then -w.1 else w.1) = true := mulT (by omega)
  have s1 : (gSetI 10 (gVar 11) (gPure (eTup (aCons (gBin dMul (gVar 12) (gCB dAbs (aCons (gBin dIx (gBin dIx (gVar 10) (gVar 11)) (gC (.int 0))) aNil))) (aCons (gBin dIx (gBin dIx (gVar 10) (gVar 11)) (gC (.int 1))) aNil))))) [some (di ns), some (di xs), some (.int (ps.length : Int)), some (di ps), some (rsD rs), some (prg ps rs), some (.int ((0 : Int) + (i : Int))), some (.int (100 + 8 * ((0 : Int) + (i : Int)))), some (fxD fx), t9, some (dp ws), some (.int ((0 : Int) + (k : Int))), some (.int g), t13, t14, t15, t16] = .nx [some (di ns), some (di xs), some (.int (ps.length : Int)), some (di ps), some (rsD rs), some (prg ps rs), some (.int ((0 : Int) + (i : Int))), some (.int (100 + 8 * ((0 : Int) + (i : Int)))), some (fxD fx), t9, some (dp (ws.set k (g * (if w.1 < 0 then -w.1 else w.1), w.2))), some (.int ((0 : Int) + (k : Int))), some (.int g), t13, t14, t15, t16] := setI_e (y := pr (g * (if w.1 < 0 then -w.1 else w.1), w.2)) (tup2 ((bin_e rfl ((cb1 ((bin_e ((bin_e rfl rfl).trans gw) rfl).trans ix0)).trans abs_i)).trans (dMul_i m1)) ((bin_e ((bin_e rfl rfl).trans gw) rfl).trans ix1)) rfl rfl (setD_g (g := pr) (x := (g * (if w.1 < 0 then -w.1 else w.1), w.2)) k (by omega) (by omega))
  refine ⟨ws.set k (g * (if w.1 < 0 then -w.1 else w.1), w.2), some (.int g), by unfold sgB; rw [ev_seq s0]; exact s1, by rw [List.length_set]; exact e, fun y hy => ?_⟩
  rcases List.mem_or_eq_of_mem_set hy with z | z
  · exact hw y z
  · rw [z]
    refine ⟨?_, wt.2⟩
    show (g * (if w.1 < 0 then -w.1 else w.1)).natAbs ≤ 12
    have := wt.1
    rcases hg2 with q | q <;> subst q <;> split <;> omega
theorem sg_ok (r5 : rs.length ≤ 5) (hg : ∀ r ∈ rs, Gr ps.length r) (hi : i < 6) (e : ws.length = rs.length) (hw : ∀ w ∈ ws, Wt w) : ∃ (ws' : List (Int × Int)) (u11 u12 : Option DV), (gIfS (gB (gBin dGt (gBin dMod (gVar 6) (gC (.int 3))) (gC (.int 0)))) (gFor (gRng1 (aCons (gCB dLen (aCons (gVar 4) aNil)) aNil)) (gtName 11) (gSeq (gAsg (gPure (gBin dIx (eLst (aCons (gC (.int 1)) (aCons (gUn dNeg (gC (.int 1))) aNil))) (gCB dInt (aCons (gBin dEq (gBin dIx (gBin dIx (gVar 4) (gVar 11)) (gC (.int 1))) (gC (.str (Str.ofString "most")))) aNil)))) (gtName 12)) (gSetI 10 (gVar 11) (gPure (eTup (aCons (gBin dMul (gVar 12) (gCB dAbs (aCons (gBin dIx (gBin dIx (gVar 10) (gVar 11)) (gC (.int 0))) aNil))) (aCons (gBin dIx (gBin dIx (gVar 10) (gVar 11)) (gC (.int 1))) aNil))))))) gNext) [some (di ns), some (di xs), some (.int (ps.length : Int)), some (di ps), some (rsD rs), some (prg ps rs), some (.int ((0 : Int) + (i : Int))), some (.int (100 + 8 * ((0 : Int) + (i : Int)))), some (fxD fx), t9, some (dp ws), t11, t12, t13, t14, t15, t16] = .nx [some (di ns), some (di xs), some (.int (ps.length : Int)), some (di ps), some (rsD rs), some (prg ps rs), some (.int ((0 : Int) + (i : Int))), some (.int (100 + 8 * ((0 : Int) + (i : Int)))), some (fxD fx), t9, some (dp ws'), u11, u12, t13, t14, t15, t16] ∧ ws'.length = rs.length ∧ ∀ w ∈ ws', Wt w := by
  have t : (gB (gBin dGt (gBin dMod (gVar 6) (gC (.int 3))) (gC (.int 0)))) [some (di ns), some (di xs), some (.int (ps.length : Int)), some (di ps), some (rsD rs), some (prg ps rs), some (.int ((0 : Int) + (i : Int))), some (.int (100 + 8 * ((0 : Int) + (i : Int)))), some (fxD fx), t9, some (dp ws), t11, t12, t13, t14, t15, t16] = .ok (decide (0 < ((0 : Int) + (i : Int)) % 3)) := b_e ((bin_e ((bin_e rfl rfl).trans (dMod_i (by decide))) rfl).trans dGt_i)
  rw [ev_ifS t]
  by_cases c : 0 < ((0 : Int) + (i : Int)) % 3
  · rw [decide_eq_true c, if_pos rfl]
    obtain ⟨ρ', f1, ws', u11, u12, e1, l1, w1⟩ := forG_rngB (tg := gtName 11) (b := sgB) rs.length (fun _ ρ => ∃ (ws : List (Int × Int)) (t11 t12 : Option DV), ρ = [some (di ns), some (di xs), some (.int (ps.length : Int)), some (di ps), some (rsD rs), some (prg ps rs), some (.int ((0 : Int) + (i : Int))), some (.int (100 + 8 * ((0 : Int) + (i : Int)))), some (fxD fx), t9, some (dp ws), t11, t12, t13, t14, t15, t16] ∧ ws.length = rs.length ∧ ∀ w ∈ ws, Wt w) (fun k ρ hk hh => by
      obtain ⟨ws, t11, t12, rfl, e, hw⟩ := hh
      obtain ⟨ws', u12, q, e', hw'⟩ := sg_turn (ns := ns) (xs := xs) (fx := fx) (i := i) (t9 := t9) (t12 := t12) (t13 := t13) (t14 := t14) (t15 := t15) (t16 := t16) r5 hg hk e hw
      exact ⟨_, _, rfl, q, _, _, _, rfl, e', hw'⟩) rs.length 0 [some (di ns), some (di xs), some (.int (ps.length : Int)), some (di ps), some (rsD rs), some (prg ps rs), some (.int ((0 : Int) + (i : Int))), some (.int (100 + 8 * ((0 : Int) + (i : Int)))), some (fxD fx), t9, some (dp ws), t11, t12, t13, t14, t15, t16] (by omega) ⟨_, _, _, rfl, e, hw⟩
    refine ⟨ws', u11, u12, ?_, l1, w1⟩
    show gFor _ _ sgB _ = _
    rw [ev_for (rng1_e (len_e (g := rowD) (xs := rs) rfl) rfl (by omega)) (by rw [rngD_eq]; exact f1), e1]
  · rw [decide_eq_false c]
    exact ⟨ws, _, _, rfl, e, hw⟩
theorem kept_shw (h : Bd ps rs fx ws) (e : ws.length = rs.length) (ht : told.length = ps.length) (hb : ∀ b ∈ told, b = 0 ∨ b = 1) : SH.Shw 3 1000 (.tup [fxD fx, dp ws, di told]) := by
  have n6 := h.n6
  have r5 := h.r5
  have fl := h.fl
  refine (SH.tup (k := 2) (w := 300) (ds := [fxD fx, dp ws, di told]) fun d hd => ?_).mono (Nat.le_refl _) (by show (300 + 1) * 3 ≤ 1000; decide)
  have hd : d = fxD fx ∨ d = dp ws ∨ d = di told := by simpa only [List.mem_cons, List.not_mem_nil, or_false] using hd
  rcases hd with hd | hd | hd <;> subst hd
  · refine (SH.map (k := 0) (w := 25) (g := fD) fun f hf => ?_).mono (by decide) (by have := Nat.mul_le_mul_left 26 (by omega : fx.length ≤ 6); omega)
    rcases h.fg f hf with q | q | q <;> subst q
    · exact SH.non.mono (by decide) (by decide)
    · exact SH.int (by decide)
    · exact SH.int (by decide)
  · refine (SH.map (k := 1) (w := 52) (g := pr) fun w hw => ?_).mono (by decide) (by have := Nat.mul_le_mul_left 53 (by omega : ws.length ≤ 5); omega)
    have wt := h.w w hw
    refine (SH.tup (k := 0) (w := 25) (ds := [.int w.1, .int w.2]) fun d hd => ?_).mono (Nat.le_refl _) (by show (25 + 1) * 2 ≤ 52; decide)
    have hd : d = .int w.1 ∨ d = .int w.2 := by simpa only [List.mem_cons, List.not_mem_nil, or_false] using hd
    have wt1 := wt.1
    have wt2 := wt.2
    rcases hd with hd | hd <;> subst hd
    · exact SH.int (by omega)
    · exact SH.int (by omega)
  · exact (di_shw fun x hx => by have := hb x hx; omega).mono (by decide) (by have := Nat.mul_le_mul_left 26 (by omega : told.length ≤ 6); omega)
/-- the tests of one turn -/
theorem t_tests (h : Bd ps rs fx ws) (e : ws.length = rs.length) (hq : ∀ q ∈ ps, q.natAbs ≤ 20) (ht : told.length = ps.length) (hb : ∀ b ∈ told, b = 0 ∨ b = 1) : ∃ u16, gSeq (gAsg (gPure (gCB dRepr (aCons (eTup (aCons (gVar 8) (aCons (gVar 10) (aCons (gVar 13) aNil)))) aNil))) (gtName 15)) (gSeq (gIfS (gB (gBin dNe (gCB m_case_bound (aCons (gVar 5) (aCons (gVar 8) (aCons (gVar 10) aNil)))) (gCB m__law_bound (aCons (gVar 3) (aCons (gVar 4) (aCons (gVar 8) (aCons (gVar 10) aNil))))))) (gRet (gPure (gC (.bl false)))) gNext) (gSeq (gIfS (gB (gBin dNe (gCB m_shows_none (aCons (gVar 5) (aCons (gVar 8) (aCons (gVar 10) aNil)))) (gCB m__law_shows_none (aCons (gVar 3) (aCons (gVar 4) (aCons (gVar 8) (aCons (gVar 10) aNil))))))) (gRet (gPure (gC (.bl false)))) gNext) (gSeq (gIfS (gB (gBin dNe (gCB m_closes (aCons (gVar 5) (aCons (gVar 8) (aCons (gVar 10) (aCons (gVar 14) (aCons (gVar 13) aNil)))))) (gCB m__law_closes (aCons (gVar 3) (aCons (gVar 4) (aCons (gVar 8) (aCons (gVar 10) (aCons (gVar 14) (aCons (gVar 13) aNil))))))))) (gRet (gPure (gC (.bl false)))) gNext) (gSeq (gAsg (gPure (gBin dAdd (gVar 10) (eLst (aCons (eTup (aCons (gC (.int 1)) (aCons (gC (.int 2)) aNil))) aNil)))) (gtName 16)) (gSeq (gIfS (gOr (gB (gBin dNotB (gCB m_shows_none (aCons (gVar 5) (aCons (gVar 8) (aCons (gVar 16) aNil)))) (gC (.bl false)))) (gB (gBin dNotB (gCB m_closes (aCons (gVar 5) (aCons (gVar 8) (aCons (gVar 16) (aCons (gVar 14) (aCons (gVar 13) aNil)))))) (gC (.bl false))))) (gRet (gPure (gC (.bl false)))) gNext) (gIfS (gOr (gB (gBin dNe (gCB dRepr (aCons (eTup (aCons (gVar 8) (aCons (gVar 10) (aCons (gVar 13) aNil)))) aNil)) (gVar 15))) (gNot (gB (gCB m__law_true (aCons (gVar 4) (aCons (gVar 3) (aCons (gVar 8) (aCons (gVar 10) (aCons (gVar 14) (aCons (gVar 13) aNil)))))))))) (gRet (gPure (gC (.bl false)))) gNext)))))) [some (di ns), some (di xs), some (.int (ps.length : Int)), some (di ps), some (rsD rs), some (prg ps rs), some (.int ((0 : Int) + (i : Int))), some (.int (100 + 8 * ((0 : Int) + (i : Int)))), some (fxD fx), t9, some (dp ws), t11, t12, some (di told), some (.int v), t15, t16] = .nx [some (di ns), some (di xs), some (.int (ps.length : Int)), some (di ps), some (rsD rs), some (prg ps rs), some (.int ((0 : Int) + (i : Int))), some (.int (100 + 8 * ((0 : Int) + (i : Int)))), some (fxD fx), t9, some (dp ws), t11, t12, some (di told), some (.int v), some (.str (py (.tup [fxD fx, dp ws, di told])).shown), u16] := by
  have n6 := h.n6
  have r5 := h.r5
  have sw := kept_shw h e ht hb
  have rp : ∀ {ρ : EnvD}, lk ρ 8 = .ok (fxD fx) → lk ρ 10 = .ok (dp ws) → lk ρ 13 = .ok (di told) → (gCB dRepr (aCons (eTup (aCons (gVar 8) (aCons (gVar 10) (aCons (gVar 13) aNil)))) aNil)) ρ = .ok (.str (py (.tup [fxD fx, dp ws, di told])).shown) := fun {ρ} g8 g10 g13 => by
    have g8 : gVar 8 ρ = .ok (fxD fx) := g8
    have g10 : gVar 10 ρ = .ok (dp ws) := g10
    have g13 : gVar 13 ρ = .ok (di told) := g13
    exact (cb1 (tup3 g8 g10 g13)).trans (SH.repr sw rfl (by decide) (by decide))
  have s6 : (gAsg (gPure (gCB dRepr (aCons (eTup (aCons (gVar 8) (aCons (gVar 10) (aCons (gVar 13) aNil)))) aNil))) (gtName 15)) [some (di ns), some (di xs), some (.int (ps.length : Int)), some (di ps), some (rsD rs), some (prg ps rs), some (.int ((0 : Int) + (i : Int))), some (.int (100 + 8 * ((0 : Int) + (i : Int)))), some (fxD fx), t9, some (dp ws), t11, t12, some (di told), some (.int v), t15, t16] = .nx [some (di ns), some (di xs), some (.int (ps.length : Int)), some (di ps), some (rsD rs), some (prg ps rs), some (.int ((0 : Int) + (i : Int))), some (.int (100 + 8 * ((0 : Int) + (i : Int)))), some (fxD fx), t9, some (dp ws), t11, t12, some (di told), some (.int v), some (.str (py (.tup [fxD fx, dp ws, di told])).shown), t16] := set_e (rp rfl rfl rfl)
  have w7 : (gB (gBin dNe (gCB m_case_bound (aCons (gVar 5) (aCons (gVar 8) (aCons (gVar 10) aNil)))) (gCB m__law_bound (aCons (gVar 3) (aCons (gVar 4) (aCons (gVar 8) (aCons (gVar 10) aNil))))))) [some (di ns), some (di xs), some (.int (ps.length : Int)), some (di ps), some (rsD rs), some (prg ps rs), some (.int ((0 : Int) + (i : Int))), some (.int (100 + 8 * ((0 : Int) + (i : Int)))), some (fxD fx), t9, some (dp ws), t11, t12, some (di told), some (.int v), some (.str (py (.tup [fxD fx, dp ws, di told])).shown), t16] = .ok false := by
    obtain ⟨x, ex, cx⟩ := case_ok h e hq
    obtain ⟨y, ey, cy⟩ := lbound_ok h e rfl hq
    have xy : y = x := cn_eq cy cx
    rw [xy] at ey
    exact b_e ((bin_e ((cb3 rfl rfl rfl).trans ex) ((cb4 rfl rfl rfl rfl).trans ey)).trans ne_pr)
  have w8 : (gB (gBin dNe (gCB m_shows_none (aCons (gVar 5) (aCons (gVar 8) (aCons (gVar 10) aNil)))) (gCB m__law_shows_none (aCons (gVar 3) (aCons (gVar 4) (aCons (gVar 8) (aCons (gVar 10) aNil))))))) [some (di ns), some (di xs), some (.int (ps.length : Int)), some (di ps), some (rsD rs), some (prg ps rs), some (.int ((0 : Int) + (i : Int))), some (.int (100 + 8 * ((0 : Int) + (i : Int)))), some (fxD fx), t9, some (dp ws), t11, t12, some (di told), some (.int v), some (.str (py (.tup [fxD fx, dp ws, di told])).shown), t16] = .ok false := b_e ((bin_e ((cb3 rfl rfl rfl).trans (snone_ok h e)) ((cb4 rfl rfl rfl rfl).trans (lsnone_ok h e))).trans ne_bl)
  have t9' : (gB (gBin dNe (gCB m_closes (aCons (gVar 5) (aCons (gVar 8) (aCons (gVar 10) (aCons (gVar 14) (aCons (gVar 13) aNil)))))) (gCB m__law_closes (aCons (gVar 3) (aCons (gVar 4) (aCons (gVar 8) (aCons (gVar 10) (aCons (gVar 14) (aCons (gVar 13) aNil))))))))) [some (di ns), some (di xs), some (.int (ps.length : Int)), some (di ps), some (rsD rs), some (prg ps rs), some (.int ((0 : Int) + (i : Int))), some (.int (100 + 8 * ((0 : Int) + (i : Int)))), some (fxD fx), t9, some (dp ws), t11, t12, some (di told), some (.int v), some (.str (py (.tup [fxD fx, dp ws, di told])).shown), t16] = .ok false := by
    obtain ⟨x, cx, ex⟩ := closes_ok (v := v) (told := told) h e hq
    obtain ⟨y, cy, ey⟩ := lcloses_ok (v := v) (told := told) h e hq
    have xy : y = x := cn_eq cy cx
    rw [xy] at ey
    exact b_e ((bin_e ((cb5 rfl rfl rfl rfl rfl).trans ex) ((cb6 rfl rfl rfl rfl rfl rfl).trans ey)).trans ne_bl)
  have s10 : (gAsg (gPure (gBin dAdd (gVar 10) (eLst (aCons (eTup (aCons (gC (.int 1)) (aCons (gC (.int 2)) aNil))) aNil)))) (gtName 16)) [some (di ns), some (di xs), some (.int (ps.length : Int)), some (di ps), some (rsD rs), some (prg ps rs), some (.int ((0 : Int) + (i : Int))), some (.int (100 + 8 * ((0 : Int) + (i : Int)))), some (fxD fx), t9, some (dp ws), t11, t12, some (di told), some (.int v), some (.str (py (.tup [fxD fx, dp ws, di told])).shown), t16] = .nx [some (di ns), some (di xs), some (.int (ps.length : Int)), some (di ps), some (rsD rs), some (prg ps rs), some (.int ((0 : Int) + (i : Int))), some (.int (100 + 8 * ((0 : Int) + (i : Int)))), some (fxD fx), t9, some (dp ws), t11, t12, some (di told), some (.int v), some (.str (py (.tup [fxD fx, dp ws, di told])).shown), some (dp (ws ++ [(1, 2)]))] := set_e ((bin_e rfl (one_e (g := pr) (x := (1, 2)) rfl)).trans (cat_e (g := pr) (xs := ws) (ys := [(1, 2)]) (by rw [List.length_singleton]; omega)))
  have hl : Bd ps rs fx (ws ++ [(1, 2)]) := ⟨h.n1, h.n6, h.g, h.r5, h.fl, h.fg, fun w hw => by
    rcases List.mem_append.mp hw with z | z
    · exact h.w w z
    · rw [List.mem_singleton.mp z]; exact ⟨by decide, by decide, by decide⟩⟩
  have nl : (ws ++ [(1, 2)]).length ≠ rs.length := by rw [List.length_append, List.length_singleton]; omega
  have w11 : (gOr (gB (gBin dNotB (gCB m_shows_none (aCons (gVar 5) (aCons (gVar 8) (aCons (gVar 16) aNil)))) (gC (.bl false)))) (gB (gBin dNotB (gCB m_closes (aCons (gVar 5) (aCons (gVar 8) (aCons (gVar 16) (aCons (gVar 14) (aCons (gVar 13) aNil)))))) (gC (.bl false))))) [some (di ns), some (di xs), some (.int (ps.length : Int)), some (di ps), some (rsD rs), some (prg ps rs), some (.int ((0 : Int) + (i : Int))), some (.int (100 + 8 * ((0 : Int) + (i : Int)))), some (fxD fx), t9, some (dp ws), t11, t12, some (di told), some (.int v), some (.str (py (.tup [fxD fx, dp ws, di told])).shown), some (dp (ws ++ [(1, 2)]))] = .ok false := by
    rw [or_e (b_e ((bin_e ((cb3 rfl rfl rfl).trans (snone_no hl nl)) rfl).trans rfl)) (b_e ((bin_e ((cb5 rfl rfl rfl rfl rfl).trans (closes_no (v := v) (told := told) hl nl)) rfl).trans rfl))]
    rfl
  have w12 : (gOr (gB (gBin dNe (gCB dRepr (aCons (eTup (aCons (gVar 8) (aCons (gVar 10) (aCons (gVar 13) aNil)))) aNil)) (gVar 15))) (gNot (gB (gCB m__law_true (aCons (gVar 4) (aCons (gVar 3) (aCons (gVar 8) (aCons (gVar 10) (aCons (gVar 14) (aCons (gVar 13) aNil)))))))))) [some (di ns), some (di xs), some (.int (ps.length : Int)), some (di ps), some (rsD rs), some (prg ps rs), some (.int ((0 : Int) + (i : Int))), some (.int (100 + 8 * ((0 : Int) + (i : Int)))), some (fxD fx), t9, some (dp ws), t11, t12, some (di told), some (.int v), some (.str (py (.tup [fxD fx, dp ws, di told])).shown), some (dp (ws ++ [(1, 2)]))] = .ok false := by
    rw [or_e (b_e ((bin_e (rp rfl rfl rfl) rfl).trans (SH.ne_str sw.ok))) (not_e (b_e ((cb6 rfl rfl rfl rfl rfl rfl).trans (true_ok (v := v) (told := told) h e hq ht))))]
    rfl
  exact ⟨_, (ev_seq s6).trans ((ev_skip w7).trans ((ev_skip w8).trans ((ev_skip t9').trans ((ev_seq s10).trans ((ev_skip w11).trans ((ev_ifS w12).trans rfl))))))⟩
def tB : GS := (gSeq (gAsg (gPure (gBin dAdd (gC (.int 100)) (gBin dMul (gC (.int 8)) (gVar 6)))) (gtName 7)) (gSeq (gAsg (gPure (gLc (gRng1 (aCons (gVar 2) aNil)) (gtName 9) gYes (gBin dIx (eLst (aCons (gC (.int 0)) (aCons (gC (.int 1)) (aCons (gC .non) (aCons (gC .non) aNil))))) (gBin dMod (gCB dInt (aCons (gBin dIx (gVar 1) (gBin dAdd (gVar 7) (gVar 9))) aNil)) (gC (.int 4)))) [9])) (gtName 8)) (gSeq (gAsg (gPure (gLc (gRng1 (aCons (gCB dLen (aCons (gVar 4) aNil)) aNil)) (gtName 11) gYes (gCB m__law_some (aCons (gVar 1) (aCons (gC (.int 160)) (aCons (gBin dAdd (gBin dMul (gC (.int 3)) (gVar 6)) (gVar 11)) aNil)))) [11])) (gtName 10)) (gSeq (gIfS (gB (gBin dGt (gBin dMod (gVar 6) (gC (.int 3))) (gC (.int 0)))) (gFor (gRng1 (aCons (gCB dLen (aCons (gVar 4) aNil)) aNil)) (gtName 11) (gSeq (gAsg (gPure (gBin dIx (eLst (aCons (gC (.int 1)) (aCons (gUn dNeg (gC (.int 1))) aNil))) (gCB dInt (aCons (gBin dEq (gBin dIx (gBin dIx (gVar 4) (gVar 11)) (gC (.int 1))) (gC (.str (Str.ofString "most")))) aNil)))) (gtName 12)) (gSetI 10 (gVar 11) (gPure (eTup (aCons (gBin dMul (gVar 12) (gCB dAbs (aCons (gBin dIx (gBin dIx (gVar 10) (gVar 11)) (gC (.int 0))) aNil))) (aCons (gBin dIx (gBin dIx (gVar 10) (gVar 11)) (gC (.int 1))) aNil))))))) gNext) (gSeq (gAsg (gPure (gLc (gRng1 (aCons (gVar 2) aNil)) (gtName 9) gYes (gBin dMod (gCB dInt (aCons (gBin dIx (gVar 1) (gBin dAdd (gBin dAdd (gC (.int 200)) (gVar 6)) (gVar 9))) aNil)) (gC (.int 2))) [9])) (gtName 13)) (gSeq (gAsg (gPure (gBin dSub (gBin dMod (gCB dInt (aCons (gBin dIx (gVar 1) (gBin dAdd (gC (.int 220)) (gVar 6))) aNil)) (gC (.int 15))) (gC (.int 5)))) (gtName 14)) (gSeq (gAsg (gPure (gCB dRepr (aCons (eTup (aCons (gVar 8) (aCons (gVar 10) (aCons (gVar 13) aNil)))) aNil))) (gtName 15)) (gSeq (gIfS (gB (gBin dNe (gCB m_case_bound (aCons (gVar 5) (aCons (gVar 8) (aCons (gVar 10) aNil)))) (gCB m__law_bound (aCons (gVar 3) (aCons (gVar 4) (aCons (gVar 8) (aCons (gVar 10) aNil))))))) (gRet (gPure (gC (.bl false)))) gNext) (gSeq (gIfS (gB (gBin dNe (gCB m_shows_none (aCons (gVar 5) (aCons (gVar 8) (aCons (gVar 10) aNil)))) (gCB m__law_shows_none (aCons (gVar 3) (aCons (gVar 4) (aCons (gVar 8) (aCons (gVar 10) aNil))))))) (gRet (gPure (gC (.bl false)))) gNext) (gSeq (gIfS (gB (gBin dNe (gCB m_closes (aCons (gVar 5) (aCons (gVar 8) (aCons (gVar 10) (aCons (gVar 14) (aCons (gVar 13) aNil)))))) (gCB m__law_closes (aCons (gVar 3) (aCons (gVar 4) (aCons (gVar 8) (aCons (gVar 10) (aCons (gVar 14) (aCons (gVar 13) aNil))))))))) (gRet (gPure (gC (.bl false)))) gNext) (gSeq (gAsg (gPure (gBin dAdd (gVar 10) (eLst (aCons (eTup (aCons (gC (.int 1)) (aCons (gC (.int 2)) aNil))) aNil)))) (gtName 16)) (gSeq (gIfS (gOr (gB (gBin dNotB (gCB m_shows_none (aCons (gVar 5) (aCons (gVar 8) (aCons (gVar 16) aNil)))) (gC (.bl false)))) (gB (gBin dNotB (gCB m_closes (aCons (gVar 5) (aCons (gVar 8) (aCons (gVar 16) (aCons (gVar 14) (aCons (gVar 13) aNil)))))) (gC (.bl false))))) (gRet (gPure (gC (.bl false)))) gNext) (gIfS (gOr (gB (gBin dNe (gCB dRepr (aCons (eTup (aCons (gVar 8) (aCons (gVar 10) (aCons (gVar 13) aNil)))) aNil)) (gVar 15))) (gNot (gB (gCB m__law_true (aCons (gVar 4) (aCons (gVar 3) (aCons (gVar 8) (aCons (gVar 10) (aCons (gVar 14) (aCons (gVar 13) aNil)))))))))) (gRet (gPure (gC (.bl false)))) gNext)))))))))))))
theorem t_turn (hl : xs.length = 260) (n1 : 1 ≤ ps.length) (n6 : ps.length ≤ 6) (hq : ∀ q ∈ ps, q.natAbs ≤ 20) (r5 : rs.length ≤ 5) (hg : ∀ r ∈ rs, Gr ps.length r) (hi : i < 6) : ∃ (fx : Fx) (ws : List (Int × Int)) (u7 u9 u11 u12 u13 u14 u15 u16 : Option DV), tB [some (di ns), some (di xs), some (.int (ps.length : Int)), some (di ps), some (rsD rs), some (prg ps rs), some (.int ((0 : Int) + (i : Int))), t7, t8, t9, t10, t11, t12, t13, t14, t15, t16] = .nx [some (di ns), some (di xs), some (.int (ps.length : Int)), some (di ps), some (rsD rs), some (prg ps rs), some (.int ((0 : Int) + (i : Int))), u7, some (fxD fx), u9, some (dp ws), u11, u12, u13, u14, u15, u16] ∧ Bd ps rs fx ws ∧ ws.length = rs.length := by
  have m1 : mulOk 8 ((0 : Int) + (i : Int)) = true := mulT (by decide)
  have s0 : (gAsg (gPure (gBin dAdd (gC (.int 100)) (gBin dMul (gC (.int 8)) (gVar 6)))) (gtName 7)) [some (di ns), some (di xs), some (.int (ps.length : Int)), some (di ps), some (rsD rs), some (prg ps rs), some (.int ((0 : Int) + (i : Int))), t7, t8, t9, t10, t11, t12, t13, t14, t15, t16] = .nx [some (di ns), some (di xs), some (.int (ps.length : Int)), some (di ps), some (rsD rs), some (prg ps rs), some (.int ((0 : Int) + (i : Int))), some (.int (100 + 8 * ((0 : Int) + (i : Int)))), t8, t9, t10, t11, t12, t13, t14, t15, t16] := set_e ((bin_e rfl ((bin_e rfl rfl).trans (dMul_i m1))).trans dAdd_i)
  obtain ⟨fx, fl, fg, kf⟩ := fx_ok (ns := ns) (rs := rs) (t8 := t8) (t9 := t9) (t10 := t10) (t11 := t11) (t12 := t12) (t13 := t13) (t14 := t14) (t15 := t15) (t16 := t16) hl n6 hi
  have s1 : (gAsg (gPure (gLc (gRng1 (aCons (gVar 2) aNil)) (gtName 9) gYes (gBin dIx (eLst (aCons (gC (.int 0)) (aCons (gC (.int 1)) (aCons (gC .non) (aCons (gC .non) aNil))))) (gBin dMod (gCB dInt (aCons (gBin dIx (gVar 1) (gBin dAdd (gVar 7) (gVar 9))) aNil)) (gC (.int 4)))) [9])) (gtName 8)) [some (di ns), some (di xs), some (.int (ps.length : Int)), some (di ps), some (rsD rs), some (prg ps rs), some (.int ((0 : Int) + (i : Int))), some (.int (100 + 8 * ((0 : Int) + (i : Int)))), t8, t9, t10, t11, t12, t13, t14, t15, t16] = .nx [some (di ns), some (di xs), some (.int (ps.length : Int)), some (di ps), some (rsD rs), some (prg ps rs), some (.int ((0 : Int) + (i : Int))), some (.int (100 + 8 * ((0 : Int) + (i : Int)))), some (fxD fx), t9, t10, t11, t12, t13, t14, t15, t16] := set_e kf
  obtain ⟨ws, wl, ww, kw⟩ := ws_ok (ns := ns) (ps := ps) (fx := fx) (t9 := t9) (t10 := t10) (t11 := t11) (t12 := t12) (t13 := t13) (t14 := t14) (t15 := t15) (t16 := t16) hl r5 hi
  have s2 : (gAsg (gPure (gLc (gRng1 (aCons (gCB dLen (aCons (gVar 4) aNil)) aNil)) (gtName 11) gYes (gCB m__law_some (aCons (gVar 1) (aCons (gC (.int 160)) (aCons (gBin dAdd (gBin dMul (gC (.int 3)) (gVar 6)) (gVar 11)) aNil)))) [11])) (gtName 10)) [some (di ns), some (di xs), some (.int (ps.length : Int)), some (di ps), some (rsD rs), some (prg ps rs), some (.int ((0 : Int) + (i : Int))), some (.int (100 + 8 * ((0 : Int) + (i : Int)))), some (fxD fx), t9, t10, t11, t12, t13, t14, t15, t16] = .nx [some (di ns), some (di xs), some (.int (ps.length : Int)), some (di ps), some (rsD rs), some (prg ps rs), some (.int ((0 : Int) + (i : Int))), some (.int (100 + 8 * ((0 : Int) + (i : Int)))), some (fxD fx), t9, some (dp ws), t11, t12, t13, t14, t15, t16] := set_e kw
  obtain ⟨ws, u11, u12, s3, wl, ww⟩ := sg_ok (ns := ns) (xs := xs) (fx := fx) (t9 := t9) (t11 := t11) (t12 := t12) (t13 := t13) (t14 := t14) (t15 := t15) (t16 := t16) r5 hg hi wl ww
  obtain ⟨told, tl, tb, kd⟩ := told_ok (ns := ns) (rs := rs) (fx := fx) (ws := ws) (t9 := t9) (t11 := u11) (t12 := u12) (t13 := t13) (t14 := t14) (t15 := t15) (t16 := t16) hl n6 hi
  have s4 : (gAsg (gPure (gLc (gRng1 (aCons (gVar 2) aNil)) (gtName 9) gYes (gBin dMod (gCB dInt (aCons (gBin dIx (gVar 1) (gBin dAdd (gBin dAdd (gC (.int 200)) (gVar 6)) (gVar 9))) aNil)) (gC (.int 2))) [9])) (gtName 13)) [some (di ns), some (di xs), some (.int (ps.length : Int)), some (di ps), some (rsD rs), some (prg ps rs), some (.int ((0 : Int) + (i : Int))), some (.int (100 + 8 * ((0 : Int) + (i : Int)))), some (fxD fx), t9, some (dp ws), u11, u12, t13, t14, t15, t16] = .nx [some (di ns), some (di xs), some (.int (ps.length : Int)), some (di ps), some (rsD rs), some (prg ps rs), some (.int ((0 : Int) + (i : Int))), some (.int (100 + 8 * ((0 : Int) + (i : Int)))), some (fxD fx), t9, some (dp ws), u11, u12, some (di told), t14, t15, t16] := set_e kd
  have s5 : (gAsg (gPure (gBin dSub (gBin dMod (gCB dInt (aCons (gBin dIx (gVar 1) (gBin dAdd (gC (.int 220)) (gVar 6))) aNil)) (gC (.int 15))) (gC (.int 5)))) (gtName 14)) [some (di ns), some (di xs), some (.int (ps.length : Int)), some (di ps), some (rsD rs), some (prg ps rs), some (.int ((0 : Int) + (i : Int))), some (.int (100 + 8 * ((0 : Int) + (i : Int)))), some (fxD fx), t9, some (dp ws), u11, u12, some (di told), t14, t15, t16] = .nx [some (di ns), some (di xs), some (.int (ps.length : Int)), some (di ps), some (rsD rs), some (prg ps rs), some (.int ((0 : Int) + (i : Int))), some (.int (100 + 8 * ((0 : Int) + (i : Int)))), some (fxD fx), t9, some (dp ws), u11, u12, some (di told), some (.int (xs.getD (220 + ((0 : Int) + (i : Int))).toNat 0 % 15 - 5)), t15, t16] := set_e ((bin_e ((bin_e ((cb1 ((bin_e rfl ((bin_e rfl rfl).trans dAdd_i)).trans (ixz (z := 220 + ((0 : Int) + (i : Int))) (by omega) (by omega)))).trans dInt_i) rfl).trans (dMod_i (by decide))) rfl).trans dSub_i)
  have B : Bd ps rs fx ws := ⟨n1, n6, hg, r5, fl, fg, ww⟩
  obtain ⟨u16, s6⟩ := t_tests (ns := ns) (xs := xs) (i := i) (v := xs.getD (220 + ((0 : Int) + (i : Int))).toNat 0 % 15 - 5) (t9 := t9) (t11 := u11) (t12 := u12) (t15 := t15) (t16 := t16) B wl hq tl tb
  refine ⟨fx, ws, some (.int (100 + 8 * ((0 : Int) + (i : Int)))), t9, u11, u12, some (di told), some (.int (xs.getD (220 + ((0 : Int) + (i : Int))).toNat 0 % 15 - 5)), some (.str (py (.tup [fxD fx, dp ws, di told])).shown), u16, ?_, B, wl⟩
  unfold tB
  rw [ev_seq s0, ev_seq s1, ev_seq s2]
  show gSeq (gIfS (gB (gBin dGt (gBin dMod (gVar 6) (gC (.int 3))) (gC (.int 0)))) (gFor (gRng1 (aCons (gCB dLen (aCons (gVar 4) aNil)) aNil)) (gtName 11) (gSeq (gAsg (gPure (gBin dIx (eLst (aCons (gC (.int 1)) (aCons (gUn dNeg (gC (.int 1))) aNil))) (gCB dInt (aCons (gBin dEq (gBin dIx (gBin dIx (gVar 4) (gVar 11)) (gC (.int 1))) (gC (.str (Str.ofString "most")))) aNil)))) (gtName 12)) (gSetI 10 (gVar 11) (gPure (eTup (aCons (gBin dMul (gVar 12) (gCB dAbs (aCons (gBin dIx (gBin dIx (gVar 10) (gVar 11)) (gC (.int 0))) aNil))) (aCons (gBin dIx (gBin dIx (gVar 10) (gVar 11)) (gC (.int 1))) aNil))))))) gNext) _ _ = _
  rw [ev_seq s3, ev_seq s4, ev_seq s5]
  exact s6
end
theorem sl_e {xs : List Int} {a : GE} {ρ : EnvD} (h : 240 ≤ xs.length) (h1 : a ρ = .ok (di xs)) : gSl a (gPart (gC (.int 230))) (gPart (gC (.int 240))) ρ = .ok (di ((xs.drop 230).take 10)) := by
  have e : gSl a (gPart (gC (.int 230))) (gPart (gC (.int 240))) ρ = .ok (.lst (cutD (xs.map DV.int) (some ((230 : Nat) : Int)) (some ((240 : Nat) : Int)))) := by
    unfold gSl gPart
    rw [h1]
    rfl
  rw [e]
  unfold cutD
  rw [HT.sIx_nat, HT.sIx_nat, List.length_map, Nat.min_eq_left h, Nat.min_eq_left (by omega : 230 ≤ xs.length), ← List.map_drop, ← List.map_take]
theorem law_true (ns : List Int) (hl : ns.length ≤ 63) : m_law [.lst (ns.map .int)] = .ok (.bl true) := by
  obtain ⟨xs, e1, hx, hr⟩ := numbers_ok hl
  obtain ⟨n, ps, rs, e2, n1, n6, pl, hq, r5, hg⟩ := prog_ok hx hr
  subst pl
  have st : startD 17 [di ns] = [some (di ns), none, none, none, none, none, none, none, none, none, none, none, none, none, none, none, none] := rfl
  have s0 : (gAsg (gPure (gCB m__law_numbers (aCons (gVar 0) (aCons (gC (.int 260)) aNil)))) (gtName 1)) [some (di ns), none, none, none, none, none, none, none, none, none, none, none, none, none, none, none, none] = .nx [some (di ns), some (di xs), none, none, none, none, none, none, none, none, none, none, none, none, none, none, none] := set_e ((cb2 rfl rfl).trans e1)
  have s1 : (gAsg (gPure (gCB m__law_program (aCons (gVar 1) (aCons (gC (.int 10)) (aCons (gC (.int 6)) (aCons (gC (.int 5)) aNil)))))) (gtTup [2, 3, 4])) [some (di ns), some (di xs), none, none, none, none, none, none, none, none, none, none, none, none, none, none, none] = .nx [some (di ns), some (di xs), some (.int (ps.length : Int)), some (di ps), some (rsD rs), none, none, none, none, none, none, none, none, none, none, none, none] := by
    have c := (cb4 (a := gVar 1) (b := gC (.int 10)) (c := gC (.int 6)) (d := gC (.int 5)) (o := m__law_program) (ρ := [some (di ns), some (di xs), none, none, none, none, none, none, none, none, none, none, none, none, none, none, none]) rfl rfl rfl rfl).trans e2
    unfold gAsg
    rw [ev_pure, c]
    rfl
  have s2 : (gAsg (gPure (gCB m_Program___init__ (aCons (gVar 3) (aCons (gVar 4) aNil)))) (gtName 5)) [some (di ns), some (di xs), some (.int (ps.length : Int)), some (di ps), some (rsD rs), none, none, none, none, none, none, none, none, none, none, none, none] = .nx [some (di ns), some (di xs), some (.int (ps.length : Int)), some (di ps), some (rsD rs), some (prg ps rs), none, none, none, none, none, none, none, none, none, none, none] := set_e ((cb2 rfl rfl).trans (init_ok n1 (by omega) (by omega) hg))
  obtain ⟨ρ', f1, hf⟩ := forG_rngB (tg := gtName 6) (b := tB) 6 (fun i ρ => ∃ (t6 t7 t8 t9 t10 t11 t12 t13 t14 t15 t16 : Option DV), ρ = [some (di ns), some (di xs), some (.int (ps.length : Int)), some (di ps), some (rsD rs), some (prg ps rs), t6, t7, t8, t9, t10, t11, t12, t13, t14, t15, t16] ∧ (0 < i → ∃ (fx : Fx) (ws : List (Int × Int)), t8 = some (fxD fx) ∧ t10 = some (dp ws) ∧ Bd ps rs fx ws ∧ ws.length = rs.length)) (fun i ρ hi hh => by
    obtain ⟨t6, t7, t8, t9, t10, t11, t12, t13, t14, t15, t16, rfl, _⟩ := hh
    obtain ⟨fx, ws, u7, u9, u11, u12, u13, u14, u15, u16, k, B, wl⟩ := t_turn (ns := ns) (t7 := t7) (t8 := t8) (t9 := t9) (t10 := t10) (t11 := t11) (t12 := t12) (t13 := t13) (t14 := t14) (t15 := t15) (t16 := t16) hx n1 n6 hq r5 hg hi
    exact ⟨_, _, rfl, k, _, _, _, _, _, _, _, _, _, _, _, rfl, fun _ => ⟨fx, ws, rfl, rfl, B, wl⟩⟩) 6 0 [some (di ns), some (di xs), some (.int (ps.length : Int)), some (di ps), some (rsD rs), some (prg ps rs), none, none, none, none, none, none, none, none, none, none, none] (by omega) ⟨_, _, _, _, _, _, _, _, _, _, _, rfl, fun h => absurd h (Nat.lt_irrefl 0)⟩
  obtain ⟨t6, t7, t8, t9, t10, t11, t12, t13, t14, t15, t16, e3, h8⟩ := hf
  obtain ⟨fx, ws, rfl, rfl, B, wl⟩ := h8 (by decide)
  have s3 : gFor (gRng1 (aCons (gC (.int 6)) aNil)) (gtName 6) tB [some (di ns), some (di xs), some (.int (ps.length : Int)), some (di ps), some (rsD rs), some (prg ps rs), none, none, none, none, none, none, none, none, none, none, none] = .nx ρ' := ev_for (rng1_e (i := 6) (n := 6) rfl rfl (by omega)) (by rw [rngD_eq]; exact f1)
  have rf := refusals_ok (ys := (xs.drop 230).take 10) (by rw [List.length_take, List.length_drop]; omega) B wl
  unfold m_law runB b_law
  rw [st, ev_seq s0, ev_seq s1, ev_seq s2]
  show finB (gSeq (gFor _ _ tB) _ _) = _
  rw [ev_seq s3, e3, ret_e ((cb4 (sl_e (by omega) rfl) rfl rfl rfl).trans rf)]
  rfl
end M
end

/-! text Wlk -/
section
set_option maxRecDepth 100000
set_option maxHeartbeats 8000000
namespace M
open PySem PySem.Spec PyProof.Rows L2 DL
def topS (i : Nat) : Stmt := PySem.Challenge.pw_trunkweb_k65_bounds_under_fixings.main.body.getD i (.Pass ⟨0, 0, 0, 0⟩)
abbrev s_fraction : Stmt := topS 11
theorem sc_fraction : FnScope N_fraction ["numerator", "denominator"] (defScope s_fraction) := ⟨rfl, rfl, rfl, by decide +kernel, rfl, by decide +kernel, by decide +kernel⟩
abbrev s_plus : Stmt := topS 12
theorem sc_plus : FnScope N_plus ["first", "second"] (defScope s_plus) := ⟨rfl, rfl, rfl, by decide +kernel, rfl, by decide +kernel, by decide +kernel⟩
abbrev s_minus : Stmt := topS 13
theorem sc_minus : FnScope N_minus ["first", "second"] (defScope s_minus) := ⟨rfl, rfl, rfl, by decide +kernel, rfl, by decide +kernel, by decide +kernel⟩
abbrev s_is_less : Stmt := topS 14
theorem sc_is_less : FnScope N_is_less ["first", "second"] (defScope s_is_less) := ⟨rfl, rfl, rfl, by decide +kernel, rfl, by decide +kernel, by decide +kernel⟩
abbrev s_ceiling : Stmt := topS 15
theorem sc_ceiling : FnScope N_ceiling ["pair"] (defScope s_ceiling) := ⟨rfl, rfl, rfl, by decide +kernel, rfl, by decide +kernel, by decide +kernel⟩
abbrev s_added : Stmt := topS 16
theorem sc_added : FnScope N_added ["fractions"] (defScope s_added) := ⟨rfl, rfl, rfl, by decide +kernel, rfl, by decide +kernel, by decide +kernel⟩
abbrev s_weighted : Stmt := topS 17
theorem sc_weighted : FnScope N_weighted ["numbers", "fractions"] (defScope s_weighted) := ⟨rfl, rfl, rfl, by decide +kernel, rfl, by decide +kernel, by decide +kernel⟩
abbrev s_Program_rows : Stmt := inClass (topS 22) 3
theorem sc_Program_rows : FnScope N_Program_rows ["self"] (defScope s_Program_rows) := ⟨rfl, rfl, rfl, by decide +kernel, rfl, by decide +kernel, by decide +kernel⟩
abbrev s_are_fit : Stmt := topS 24
theorem sc_are_fit : FnScope N_are_fit ["program", "multipliers"] (defScope s_are_fit) := ⟨rfl, rfl, rfl, by decide +kernel, rfl, by decide +kernel, by decide +kernel⟩
abbrev s_check_multipliers : Stmt := topS 25
theorem sc_check_multipliers : FnScope N_check_multipliers ["program", "multipliers"] (defScope s_check_multipliers) := ⟨rfl, rfl, rfl, by decide +kernel, rfl, by decide +kernel, by decide +kernel⟩
abbrev s_Program_count : Stmt := inClass (topS 22) 1
theorem sc_Program_count : FnScope N_Program_count ["self"] (defScope s_Program_count) := ⟨rfl, rfl, rfl, by decide +kernel, rfl, by decide +kernel, by decide +kernel⟩
abbrev s_loads : Stmt := topS 26
theorem sc_loads : FnScope N_loads ["program", "multipliers"] (defScope s_loads) := ⟨rfl, rfl, rfl, by decide +kernel, rfl, by decide +kernel, by decide +kernel⟩
abbrev s_gain : Stmt := topS 27
theorem sc_gain : FnScope N_gain ["program", "multipliers"] (defScope s_gain) := ⟨rfl, rfl, rfl, by decide +kernel, rfl, by decide +kernel, by decide +kernel⟩
abbrev s_check_program : Stmt := topS 30
theorem sc_check_program : FnScope N_check_program ["program"] (defScope s_check_program) := ⟨rfl, rfl, rfl, by decide +kernel, rfl, by decide +kernel, by decide +kernel⟩
abbrev s_check_fixing : Stmt := topS 31
theorem sc_check_fixing : FnScope N_check_fixing ["program", "fixing"] (defScope s_check_fixing) := ⟨rfl, rfl, rfl, by decide +kernel, rfl, by decide +kernel, by decide +kernel⟩
abbrev s_least_part : Stmt := topS 32
theorem sc_least_part : FnScope N_least_part ["price", "load", "fixed"] (defScope s_least_part) := ⟨rfl, rfl, rfl, by decide +kernel, rfl, by decide +kernel, by decide +kernel⟩
abbrev s_bound_of : Stmt := topS 33
theorem sc_bound_of : FnScope N_bound_of ["program", "prices", "fixing", "multipliers"] (defScope s_bound_of) := ⟨rfl, rfl, rfl, by decide +kernel, rfl, by decide +kernel, by decide +kernel⟩
abbrev s_Program_prices : Stmt := inClass (topS 22) 2
theorem sc_Program_prices : FnScope N_Program_prices ["self"] (defScope s_Program_prices) := ⟨rfl, rfl, rfl, by decide +kernel, rfl, by decide +kernel, by decide +kernel⟩
abbrev s_case_bound : Stmt := topS 34
theorem sc_case_bound : FnScope N_case_bound ["program", "fixing", "multipliers"] (defScope s_case_bound) := ⟨rfl, rfl, rfl, by decide +kernel, rfl, by decide +kernel, by decide +kernel⟩
abbrev s_shows_none : Stmt := topS 35
theorem sc_shows_none : FnScope N_shows_none ["program", "fixing", "multipliers"] (defScope s_shows_none) := ⟨rfl, rfl, rfl, by decide +kernel, rfl, by decide +kernel, by decide +kernel⟩
abbrev s_first_list : Stmt := topS 36
theorem sc_first_list : FnScope N_first_list ["fixing"] (defScope s_first_list) := ⟨rfl, rfl, rfl, by decide +kernel, rfl, by decide +kernel, by decide +kernel⟩
abbrev s_closes : Stmt := topS 37
theorem sc_closes : FnScope N_closes ["program", "fixing", "multipliers", "value", "told"] (defScope s_closes) := ⟨rfl, rfl, rfl, by decide +kernel, rfl, by decide +kernel, by decide +kernel⟩
abbrev s__law_numbers : Stmt := topS 39
theorem sc__law_numbers : FnScope N__law_numbers ["_law_script", "_law_many"] (defScope s__law_numbers) := ⟨rfl, rfl, rfl, by decide +kernel, rfl, by decide +kernel, by decide +kernel⟩
abbrev s__law_lowest : Stmt := topS 40
theorem sc__law_lowest : FnScope N__law_lowest ["_law_p", "_law_q"] (defScope s__law_lowest) := ⟨rfl, rfl, rfl, by decide +kernel, rfl, by decide +kernel, by decide +kernel⟩
abbrev s__law_plus : Stmt := topS 41
theorem sc__law_plus : FnScope N__law_plus ["_law_first", "_law_second"] (defScope s__law_plus) := ⟨rfl, rfl, rfl, by decide +kernel, rfl, by decide +kernel, by decide +kernel⟩
abbrev s__law_added : Stmt := topS 44
theorem sc__law_added : FnScope N__law_added ["_law_rows"] (defScope s__law_added) := ⟨rfl, rfl, rfl, by decide +kernel, rfl, by decide +kernel, by decide +kernel⟩
abbrev s__law_weighted : Stmt := topS 45
theorem sc__law_weighted : FnScope N__law_weighted ["_law_numbers_here", "_law_values"] (defScope s__law_weighted) := ⟨rfl, rfl, rfl, by decide +kernel, rfl, by decide +kernel, by decide +kernel⟩
abbrev s__law_program : Stmt := topS 46
theorem sc__law_program : FnScope N__law_program ["_law_numbers_here", "_law_at", "_law_most", "_law_count"] (defScope s__law_program) := ⟨rfl, rfl, rfl, by decide +kernel, rfl, by decide +kernel, by decide +kernel⟩
abbrev s__law_good : Stmt := topS 47
theorem sc__law_good : FnScope N__law_good ["_law_rows", "_law_told"] (defScope s__law_good) := ⟨rfl, rfl, rfl, by decide +kernel, rfl, by decide +kernel, by decide +kernel⟩
abbrev s__law_lists : Stmt := topS 48
theorem sc__law_lists : FnScope N__law_lists ["_law_many"] (defScope s__law_lists) := ⟨rfl, rfl, rfl, by decide +kernel, rfl, by decide +kernel, by decide +kernel⟩
abbrev s__law_worth : Stmt := topS 49
theorem sc__law_worth : FnScope N__law_worth ["_law_prices", "_law_told"] (defScope s__law_worth) := ⟨rfl, rfl, rfl, by decide +kernel, rfl, by decide +kernel, by decide +kernel⟩
abbrev s__law_fit : Stmt := topS 50
theorem sc__law_fit : FnScope N__law_fit ["_law_rows", "_law_weights"] (defScope s__law_fit) := ⟨rfl, rfl, rfl, by decide +kernel, rfl, by decide +kernel, by decide +kernel⟩
abbrev s__law_bound : Stmt := topS 51
theorem sc__law_bound : FnScope N__law_bound ["_law_prices", "_law_rows", "_law_fixing", "_law_weights"] (defScope s__law_bound) := ⟨rfl, rfl, rfl, by decide +kernel, rfl, by decide +kernel, by decide +kernel⟩
abbrev s__law_shows_none : Stmt := topS 52
theorem sc__law_shows_none : FnScope N__law_shows_none ["_law_prices", "_law_rows", "_law_fixing", "_law_weights"] (defScope s__law_shows_none) := ⟨rfl, rfl, rfl, by decide +kernel, rfl, by decide +kernel, by decide +kernel⟩
abbrev s__law_closes : Stmt := topS 53
theorem sc__law_closes : FnScope N__law_closes ["_law_prices", "_law_rows", "_law_fixing", "_law_weights", "_law_value", "_law_told"] (defScope s__law_closes) := ⟨rfl, rfl, rfl, by decide +kernel, rfl, by decide +kernel, by decide +kernel⟩
abbrev s__law_some : Stmt := topS 54
theorem sc__law_some : FnScope N__law_some ["_law_numbers_here", "_law_at", "_law_k"] (defScope s__law_some) := ⟨rfl, rfl, rfl, by decide +kernel, rfl, by decide +kernel, by decide +kernel⟩
abbrev s__law_refused : Stmt := topS 55
theorem sc__law_refused : FnScope N__law_refused ["_law_way", "_law_program_here", "_law_fixing", "_law_weights"] (defScope s__law_refused) := ⟨rfl, rfl, rfl, by decide +kernel, rfl, by decide +kernel, by decide +kernel⟩
abbrev s_Program___init__ : Stmt := inClass (topS 22) 0
theorem sc_Program___init__ : FnScope N_Program___init__ ["self", "prices", "rows"] (defScope s_Program___init__) := ⟨rfl, rfl, rfl, by decide +kernel, rfl, by decide +kernel, by decide +kernel⟩
abbrev s__law_refusals : Stmt := topS 56
theorem sc__law_refusals : FnScope N__law_refusals ["_law_numbers_here", "_law_program_here", "_law_fixing", "_law_weights"] (defScope s__law_refusals) := ⟨rfl, rfl, rfl, by decide +kernel, rfl, by decide +kernel, by decide +kernel⟩
abbrev s__law_true : Stmt := topS 57
theorem sc__law_true : FnScope N__law_true ["_law_rows", "_law_prices", "_law_fixing", "_law_weights", "_law_value", "_law_told"] (defScope s__law_true) := ⟨rfl, rfl, rfl, by decide +kernel, rfl, by decide +kernel, by decide +kernel⟩
abbrev s_law : Stmt := topS 58
theorem sc_law : FnScope N_law ["_law_script"] (defScope s_law) := ⟨rfl, rfl, rfl, by decide +kernel, rfl, by decide +kernel, by decide +kernel⟩
abbrev FnP (K : PySem.W.Frag) (x : Str) (st : Stmt) (f : Addr) (fd : FuncData) : Prop := FunD K x x (defArgs st) (defBody st) (defScope st) [] [] f fd
def ecsX : List Str := ["OutOfRange", "TooMany", "ZeroDivisor", "BadRelation", "WrongSize", "BadFixing"]
structure Tp (P : Program) (K : PySem.W.Frag) (mg : Str → Option Value) where
  xi : XIn P K mg
  gc_root : mg "WebError" = some (.ref xi.D)
  c_OutOfRange : Addr
  gc_OutOfRange : mg "OutOfRange" = some (.ref c_OutOfRange)
  c_TooMany : Addr
  gc_TooMany : mg "TooMany" = some (.ref c_TooMany)
  c_ZeroDivisor : Addr
  gc_ZeroDivisor : mg "ZeroDivisor" = some (.ref c_ZeroDivisor)
  c_BadRelation : Addr
  gc_BadRelation : mg "BadRelation" = some (.ref c_BadRelation)
  c_WrongSize : Addr
  gc_WrongSize : mg "WrongSize" = some (.ref c_WrongSize)
  c_BadFixing : Addr
  gc_BadFixing : mg "BadFixing" = some (.ref c_BadFixing)
  ex : ∀ c ∈ ecsX, ∀ Ca, mg c = some (.ref Ca) → ExF K xi.D xi.fI Ca
  exm : ∀ c ∈ ecsX, ∀ Ca, mg c = some (.ref Ca) → PySem.W.exmOne K (.ref Ca) (.ref xi.D) = some true
  is : ∀ c ∈ ecsX, ∀ Ca, mg c = some (.ref Ca) → ∀ x ∈ ecsX, ∀ Xa, mg x = some (.ref Xa) → PySem.W.kitOne K (.ref Ca) (.ref Xa) = some (decide (c = x))
  c_Program : Addr
  g_Program : mg "Program" = some (.ref c_Program)
  cl_Program : Cls K c_Program
  na_Program__prices : NoAttr K c_Program "_prices"
  na_Program__rows : NoAttr K c_Program "_rows"
  a_fraction : Addr
  fd_fraction : FuncData
  F_fraction : FnP K "fraction" s_fraction a_fraction fd_fraction
  g_fraction : mg "fraction" = some (.ref a_fraction)
  b_fraction : Binds K fd_fraction ["numerator", "denominator"] []
  a_plus : Addr
  fd_plus : FuncData
  F_plus : FnP K "plus" s_plus a_plus fd_plus
  g_plus : mg "plus" = some (.ref a_plus)
  b_plus : Binds K fd_plus ["first", "second"] []
  a_minus : Addr
  fd_minus : FuncData
  F_minus : FnP K "minus" s_minus a_minus fd_minus
  g_minus : mg "minus" = some (.ref a_minus)
  b_minus : Binds K fd_minus ["first", "second"] []
  a_is_less : Addr
  fd_is_less : FuncData
  F_is_less : FnP K "is_less" s_is_less a_is_less fd_is_less
  g_is_less : mg "is_less" = some (.ref a_is_less)
  b_is_less : Binds K fd_is_less ["first", "second"] []
  a_ceiling : Addr
  fd_ceiling : FuncData
  F_ceiling : FnP K "ceiling" s_ceiling a_ceiling fd_ceiling
  g_ceiling : mg "ceiling" = some (.ref a_ceiling)
  b_ceiling : Binds K fd_ceiling ["pair"] []
  a_added : Addr
  fd_added : FuncData
  F_added : FnP K "added" s_added a_added fd_added
  g_added : mg "added" = some (.ref a_added)
  b_added : Binds K fd_added ["fractions"] []
  a_weighted : Addr
  fd_weighted : FuncData
  F_weighted : FnP K "weighted" s_weighted a_weighted fd_weighted
  g_weighted : mg "weighted" = some (.ref a_weighted)
  b_weighted : Binds K fd_weighted ["numbers", "fractions"] []
  a_Program_rows : Addr
  fd_Program_rows : FuncData
  F_Program_rows : FunD K "rows" "Program.rows" (defArgs s_Program_rows) (defBody s_Program_rows) (defScope s_Program_rows) [] [] a_Program_rows fd_Program_rows
  b_Program_rows : Binds K fd_Program_rows ["self"] []
  me_Program_rows : Meth K c_Program "rows" a_Program_rows
  a_are_fit : Addr
  fd_are_fit : FuncData
  F_are_fit : FnP K "are_fit" s_are_fit a_are_fit fd_are_fit
  g_are_fit : mg "are_fit" = some (.ref a_are_fit)
  b_are_fit : Binds K fd_are_fit ["program", "multipliers"] []
  a_check_multipliers : Addr
  fd_check_multipliers : FuncData
  F_check_multipliers : FnP K "check_multipliers" s_check_multipliers a_check_multipliers fd_check_multipliers
  g_check_multipliers : mg "check_multipliers" = some (.ref a_check_multipliers)
  b_check_multipliers : Binds K fd_check_multipliers ["program", "multipliers"] []
  a_Program_count : Addr
  fd_Program_count : FuncData
  F_Program_count : FunD K "count" "Program.count" (defArgs s_Program_count) (defBody s_Program_count) (defScope s_Program_count) [] [] a_Program_count fd_Program_count
  b_Program_count : Binds K fd_Program_count ["self"] []
  me_Program_count : Meth K c_Program "count" a_Program_count
  a_loads : Addr
  fd_loads : FuncData
  F_loads : FnP K "loads" s_loads a_loads fd_loads
  g_loads : mg "loads" = some (.ref a_loads)
  b_loads : Binds K fd_loads ["program", "multipliers"] []
  a_gain : Addr
  fd_gain : FuncData
  F_gain : FnP K "gain" s_gain a_gain fd_gain
  g_gain : mg "gain" = some (.ref a_gain)
  b_gain : Binds K fd_gain ["program", "multipliers"] []
  a_check_program : Addr
  fd_check_program : FuncData
  F_check_program : FnP K "check_program" s_check_program a_check_program fd_check_program
  g_check_program : mg "check_program" = some (.ref a_check_program)
  b_check_program : Binds K fd_check_program ["program"] []
  a_check_fixing : Addr
  fd_check_fixing : FuncData
  F_check_fixing : FnP K "check_fixing" s_check_fixing a_check_fixing fd_check_fixing
  g_check_fixing : mg "check_fixing" = some (.ref a_check_fixing)
  b_check_fixing : Binds K fd_check_fixing ["program", "fixing"] []
  a_least_part : Addr
  fd_least_part : FuncData
  F_least_part : FnP K "least_part" s_least_part a_least_part fd_least_part
  g_least_part : mg "least_part" = some (.ref a_least_part)
  b_least_part : Binds K fd_least_part ["price", "load", "fixed"] []
  a_bound_of : Addr
  fd_bound_of : FuncData
  F_bound_of : FnP K "bound_of" s_bound_of a_bound_of fd_bound_of
  g_bound_of : mg "bound_of" = some (.ref a_bound_of)
  b_bound_of : Binds K fd_bound_of ["program", "prices", "fixing", "multipliers"] []
  a_Program_prices : Addr
  fd_Program_prices : FuncData
  F_Program_prices : FunD K "prices" "Program.prices" (defArgs s_Program_prices) (defBody s_Program_prices) (defScope s_Program_prices) [] [] a_Program_prices fd_Program_prices
  b_Program_prices : Binds K fd_Program_prices ["self"] []
  me_Program_prices : Meth K c_Program "prices" a_Program_prices
  a_case_bound : Addr
  fd_case_bound : FuncData
  F_case_bound : FnP K "case_bound" s_case_bound a_case_bound fd_case_bound
  g_case_bound : mg "case_bound" = some (.ref a_case_bound)
  b_case_bound : Binds K fd_case_bound ["program", "fixing", "multipliers"] []
  a_shows_none : Addr
  fd_shows_none : FuncData
  F_shows_none : FnP K "shows_none" s_shows_none a_shows_none fd_shows_none
  g_shows_none : mg "shows_none" = some (.ref a_shows_none)
  b_shows_none : Binds K fd_shows_none ["program", "fixing", "multipliers"] []
  a_first_list : Addr
  fd_first_list : FuncData
  F_first_list : FnP K "first_list" s_first_list a_first_list fd_first_list
  g_first_list : mg "first_list" = some (.ref a_first_list)
  b_first_list : Binds K fd_first_list ["fixing"] []
  a_closes : Addr
  fd_closes : FuncData
  F_closes : FnP K "closes" s_closes a_closes fd_closes
  g_closes : mg "closes" = some (.ref a_closes)
  b_closes : Binds K fd_closes ["program", "fixing", "multipliers", "value", "told"] []
  a__law_numbers : Addr
  fd__law_numbers : FuncData
  F__law_numbers : FnP K "_law_numbers" s__law_numbers a__law_numbers fd__law_numbers
  g__law_numbers : mg "_law_numbers" = some (.ref a__law_numbers)
  b__law_numbers : Binds K fd__law_numbers ["_law_script", "_law_many"] []
  a__law_lowest : Addr
  fd__law_lowest : FuncData
  F__law_lowest : FnP K "_law_lowest" s__law_lowest a__law_lowest fd__law_lowest
  g__law_lowest : mg "_law_lowest" = some (.ref a__law_lowest)
  b__law_lowest : Binds K fd__law_lowest ["_law_p", "_law_q"] []
  a__law_plus : Addr
  fd__law_plus : FuncData
  F__law_plus : FnP K "_law_plus" s__law_plus a__law_plus fd__law_plus
  g__law_plus : mg "_law_plus" = some (.ref a__law_plus)
  b__law_plus : Binds K fd__law_plus ["_law_first", "_law_second"] []
  a__law_added : Addr
  fd__law_added : FuncData
  F__law_added : FnP K "_law_added" s__law_added a__law_added fd__law_added
  g__law_added : mg "_law_added" = some (.ref a__law_added)
  b__law_added : Binds K fd__law_added ["_law_rows"] []
  a__law_weighted : Addr
  fd__law_weighted : FuncData
  F__law_weighted : FnP K "_law_weighted" s__law_weighted a__law_weighted fd__law_weighted
  g__law_weighted : mg "_law_weighted" = some (.ref a__law_weighted)
  b__law_weighted : Binds K fd__law_weighted ["_law_numbers_here", "_law_values"] []
  a__law_program : Addr
  fd__law_program : FuncData
  F__law_program : FnP K "_law_program" s__law_program a__law_program fd__law_program
  g__law_program : mg "_law_program" = some (.ref a__law_program)
  b__law_program : Binds K fd__law_program ["_law_numbers_here", "_law_at", "_law_most", "_law_count"] []
  a__law_good : Addr
  fd__law_good : FuncData
  F__law_good : FnP K "_law_good" s__law_good a__law_good fd__law_good
  g__law_good : mg "_law_good" = some (.ref a__law_good)
  b__law_good : Binds K fd__law_good ["_law_rows", "_law_told"] []
  a__law_lists : Addr
  fd__law_lists : FuncData
  F__law_lists : FnP K "_law_lists" s__law_lists a__law_lists fd__law_lists
  g__law_lists : mg "_law_lists" = some (.ref a__law_lists)
  b__law_lists : Binds K fd__law_lists ["_law_many"] []
  a__law_worth : Addr
  fd__law_worth : FuncData
  F__law_worth : FnP K "_law_worth" s__law_worth a__law_worth fd__law_worth
  g__law_worth : mg "_law_worth" = some (.ref a__law_worth)
  b__law_worth : Binds K fd__law_worth ["_law_prices", "_law_told"] []
  a__law_fit : Addr
  fd__law_fit : FuncData
  F__law_fit : FnP K "_law_fit" s__law_fit a__law_fit fd__law_fit
  g__law_fit : mg "_law_fit" = some (.ref a__law_fit)
  b__law_fit : Binds K fd__law_fit ["_law_rows", "_law_weights"] []
  a__law_bound : Addr
  fd__law_bound : FuncData
  F__law_bound : FnP K "_law_bound" s__law_bound a__law_bound fd__law_bound
  g__law_bound : mg "_law_bound" = some (.ref a__law_bound)
  b__law_bound : Binds K fd__law_bound ["_law_prices", "_law_rows", "_law_fixing", "_law_weights"] []
  a__law_shows_none : Addr
  fd__law_shows_none : FuncData
  F__law_shows_none : FnP K "_law_shows_none" s__law_shows_none a__law_shows_none fd__law_shows_none
  g__law_shows_none : mg "_law_shows_none" = some (.ref a__law_shows_none)
  b__law_shows_none : Binds K fd__law_shows_none ["_law_prices", "_law_rows", "_law_fixing", "_law_weights"] []
  a__law_closes : Addr
  fd__law_closes : FuncData
  F__law_closes : FnP K "_law_closes" s__law_closes a__law_closes fd__law_closes
  g__law_closes : mg "_law_closes" = some (.ref a__law_closes)
  b__law_closes : Binds K fd__law_closes ["_law_prices", "_law_rows", "_law_fixing", "_law_weights", "_law_value", "_law_told"] []
  a__law_some : Addr
  fd__law_some : FuncData
  F__law_some : FnP K "_law_some" s__law_some a__law_some fd__law_some
  g__law_some : mg "_law_some" = some (.ref a__law_some)
  b__law_some : Binds K fd__law_some ["_law_numbers_here", "_law_at", "_law_k"] []
  a__law_refused : Addr
  fd__law_refused : FuncData
  F__law_refused : FnP K "_law_refused" s__law_refused a__law_refused fd__law_refused
  g__law_refused : mg "_law_refused" = some (.ref a__law_refused)
  b__law_refused : Binds K fd__law_refused ["_law_way", "_law_program_here", "_law_fixing", "_law_weights"] []
  a_Program___init__ : Addr
  fd_Program___init__ : FuncData
  F_Program___init__ : FunD K "__init__" "Program.__init__" (defArgs s_Program___init__) (defBody s_Program___init__) (defScope s_Program___init__) [] [] a_Program___init__ fd_Program___init__
  b_Program___init__ : Binds K fd_Program___init__ ["self", "prices", "rows"] []
  mk_Program : Mk K c_Program a_Program___init__
  a__law_refusals : Addr
  fd__law_refusals : FuncData
  F__law_refusals : FnP K "_law_refusals" s__law_refusals a__law_refusals fd__law_refusals
  g__law_refusals : mg "_law_refusals" = some (.ref a__law_refusals)
  b__law_refusals : Binds K fd__law_refusals ["_law_numbers_here", "_law_program_here", "_law_fixing", "_law_weights"] []
  a__law_true : Addr
  fd__law_true : FuncData
  F__law_true : FnP K "_law_true" s__law_true a__law_true fd__law_true
  g__law_true : mg "_law_true" = some (.ref a__law_true)
  b__law_true : Binds K fd__law_true ["_law_rows", "_law_prices", "_law_fixing", "_law_weights", "_law_value", "_law_told"] []
  a_law : Addr
  fd_law : FuncData
  F_law : FnP K "law" s_law a_law fd_law
  g_law : mg "law" = some (.ref a_law)
  b_law : Binds K fd_law ["_law_script"] []
  k_MOST_ROWS : ∃ t, mg "MOST_ROWS" = some (.int 80 t)
  k_MOST_VARIABLES_bounds : ∃ t, mg "MOST_VARIABLES_bounds" = some (.int 16 t)
  k_MOST_VARIABLES_program : ∃ t, mg "MOST_VARIABLES_program" = some (.int 40 t)
  a_RELATIONS : Addr
  g_RELATIONS : mg "RELATIONS" = some (.ref a_RELATIONS)
  d_RELATIONS : ∀ F, DA K mg F (.tup [(.str (Str.ofString "least")), (.str (Str.ofString "most")), (.str (Str.ofString "equal"))]) (.ref a_RELATIONS)
  a_ZERO : Addr
  g_ZERO : mg "ZERO" = some (.ref a_ZERO)
  d_ZERO : ∀ F, DA K mg F (.tup [(.int 0), (.int 1)]) (.ref a_ZERO)
  z_abs : mg "abs" = none
  z_all : mg "all" = none
  z_gcd : mg "gcd" = some (.builtin "math.gcd")
  z_int : mg "int" = none
  z_isinstance : mg "isinstance" = none
  z_len : mg "len" = none
  z_list : mg "list" = none
  z_range : mg "range" = none
  z_repr : mg "repr" = none
  z_sum : mg "sum" = none
  z_zip : mg "zip" = none
section
variable {P : Program} {w : World} {K : PySem.W.Frag} {mg : Str → Option Value} {base : Heap}
theorem ok_fraction (T : Tp P K mg) : FnOk P w K mg base (L2.CX P w) 4 T.a_fraction T.fd_fraction ["numerator", "denominator"] (spD K mg (XO mg ecsX) [.fr, .fr] .fr m_fraction) := by
  refine fnDX (N := N_fraction) (pm := [.fr, .fr]) (Γl := [.fr]) T.F_fraction sc_fraction rfl rfl rfl fun cdv A outer s H E hr => ⟨_, (pss_cons (ps_if (pt_cmpR (kx_eq (K := K) rfl hr.units) (pv 1) pe_int (nomark _)) (pss_one (kx_raise (K := K) (P := P) (mg := mg) rfl rfl rfl T.xi (T.ex _ (nth_mem 2 rfl) _ T.gc_ZeroDivisor) hr (by decide) T.gc_ZeroDivisor rfl rfl tk0 (pa_cons (pv 0) pa_nil))) pss_nil) (pss_cons (ps_if (pt_cmpR op_lt (pv 1) pe_int (nomark _)) (pss_one (ps_par (i := 0) (j := 1) (by rfl) sc_fraction.nd rfl rfl (by decide) rfl rfl (pa_cons (pe_un un_neg (pv 0)) (pa_cons (pe_un un_neg (pv 1)) pa_nil)) (by rfl))) pss_nil) (pss_cons (ps_set (i := 2) sc_fraction.nd rfl (by first | exact Or.inl rfl | exact Or.inr rfl) (pe_callBfun cr_gcd (by rfl) T.z_gcd (pa_cons (pv 0) (pa_cons (pv 1) pa_nil)))) (pss_one (ps_ret (pe_tup (pa_cons (pe_op op_divX (pv 0) (pv 2)) (pa_cons (pe_op op_divX (pv 1) (pv 2)) pa_nil)))))))), fun Bp F0 => ⟨[.fr, .fr, .fr], ?_⟩⟩
  unfold b_fraction
  exact (ss_seq (ss_if (st_tt (se_op os_eq (se_var (i := 1) (m := .fr) rfl) se_int)) (ss_raise (c := "ZeroDivisor") (ecs := ecsX) (Γ' := [.fr, .fr, .fr]) (sa_cons (se_var (i := 0) (m := .fr) rfl) sa_nil) (T.ex _ (nth_mem 2 rfl) _ T.gc_ZeroDivisor) T.gc_ZeroDivisor (nth_mem 2 rfl) hxI) ss_nil) (ss_seq (ss_if (st_tt (se_op os_lt (se_var (i := 1) (m := .fr) rfl) se_int)) (ss_par (i := 0) (j := 1) (sa_cons (se_neg (se_var (i := 0) (m := .fr) rfl)) (sa_cons (se_neg (se_var (i := 1) (m := .fr) rfl)) sa_nil)) (by decide) (by decide) nio2) ss_nil) (ss_seq (ss_set (i := 2) (m := .fr) (sx_of (se_cb cs_gcd (sa_cons (se_var (i := 0) (m := .fr) rfl) (sa_cons (se_var (i := 1) (m := .fr) rfl) sa_nil)))) (by decide) nio) (ss_ret (Γ' := [.fr, .fr, .fr]) (sx_of (se_tup (sa_cons (se_op os_div (se_var (i := 0) (m := .fr) rfl) (se_var (i := 2) (m := .fr) rfl)) (sa_cons (se_op os_div (se_var (i := 1) (m := .fr) rfl) (se_var (i := 2) (m := .fr) rfl)) sa_nil)) (by decide)))))))
theorem ok_plus (T : Tp P K mg) : FnOk P w K mg base (L2.CX P w) 5 T.a_plus T.fd_plus ["first", "second"] (spD K mg (XO mg ecsX) [.fr, .fr] .fr m_plus) := by
  have G_fraction := ok_fraction (P := P) (w := w) (base := base) T
  refine fnDX (N := N_plus) (pm := [.fr, .fr]) (Γl := []) T.F_plus sc_plus rfl rfl rfl fun cdv A outer s H E hr => ⟨_, (pss_one (ps_ret (pe_call G_fraction (hr.mono (by decide)) (by rfl) T.g_fraction T.F_fraction.kp T.b_fraction .nil px0 (pa_cons (pe_op op_addX (pe_op op_mulX (pe_ix (kx_ix (K := K) rfl) (pv 0) pe_int (fun _ _ => rfl)) (pe_ix (kx_ix (K := K) rfl) (pv 1) pe_int (fun _ _ => rfl))) (pe_op op_mulX (pe_ix (kx_ix (K := K) rfl) (pv 1) pe_int (fun _ _ => rfl)) (pe_ix (kx_ix (K := K) rfl) (pv 0) pe_int (fun _ _ => rfl)))) (pa_cons (pe_op op_mulX (pe_ix (kx_ix (K := K) rfl) (pv 0) pe_int (fun _ _ => rfl)) (pe_ix (kx_ix (K := K) rfl) (pv 1) pe_int (fun _ _ => rfl))) pa_nil))))), fun Bp F0 => ⟨[.fr, .fr], ?_⟩⟩
  unfold b_plus
  exact (ss_ret (Γ' := [.fr, .fr]) (sx_of (se_call (sa_cons (se_fr (se_op os_add (se_op os_mul (se_op os_ix (se_var (i := 0) (m := .fr) rfl) se_int) (se_op os_ix (se_var (i := 1) (m := .fr) rfl) se_int)) (se_op os_mul (se_op os_ix (se_var (i := 1) (m := .fr) rfl) se_int) (se_op os_ix (se_var (i := 0) (m := .fr) rfl) se_int))) rfl) (sa_cons (se_op os_mul (se_op os_ix (se_var (i := 0) (m := .fr) rfl) se_int) (se_op os_ix (se_var (i := 1) (m := .fr) rfl) se_int)) sa_nil)) hxI)))
theorem ok_minus (T : Tp P K mg) : FnOk P w K mg base (L2.CX P w) 5 T.a_minus T.fd_minus ["first", "second"] (spD K mg (XO mg ecsX) [.fr, .fr] .fr m_minus) := by
  have G_fraction := ok_fraction (P := P) (w := w) (base := base) T
  refine fnDX (N := N_minus) (pm := [.fr, .fr]) (Γl := []) T.F_minus sc_minus rfl rfl rfl fun cdv A outer s H E hr => ⟨_, (pss_one (ps_ret (pe_call G_fraction (hr.mono (by decide)) (by rfl) T.g_fraction T.F_fraction.kp T.b_fraction .nil px0 (pa_cons (pe_op op_sub (pe_op op_mulX (pe_ix (kx_ix (K := K) rfl) (pv 0) pe_int (fun _ _ => rfl)) (pe_ix (kx_ix (K := K) rfl) (pv 1) pe_int (fun _ _ => rfl))) (pe_op op_mulX (pe_ix (kx_ix (K := K) rfl) (pv 1) pe_int (fun _ _ => rfl)) (pe_ix (kx_ix (K := K) rfl) (pv 0) pe_int (fun _ _ => rfl)))) (pa_cons (pe_op op_mulX (pe_ix (kx_ix (K := K) rfl) (pv 0) pe_int (fun _ _ => rfl)) (pe_ix (kx_ix (K := K) rfl) (pv 1) pe_int (fun _ _ => rfl))) pa_nil))))), fun Bp F0 => ⟨[.fr, .fr], ?_⟩⟩
  unfold b_minus
  exact (ss_ret (Γ' := [.fr, .fr]) (sx_of (se_call (sa_cons (se_op os_sub (se_op os_mul (se_op os_ix (se_var (i := 0) (m := .fr) rfl) se_int) (se_op os_ix (se_var (i := 1) (m := .fr) rfl) se_int)) (se_op os_mul (se_op os_ix (se_var (i := 1) (m := .fr) rfl) se_int) (se_op os_ix (se_var (i := 0) (m := .fr) rfl) se_int))) (sa_cons (se_op os_mul (se_op os_ix (se_var (i := 0) (m := .fr) rfl) se_int) (se_op os_ix (se_var (i := 1) (m := .fr) rfl) se_int)) sa_nil)) hxI)))
theorem ok_is_less (T : Tp P K mg) : FnOk P w K mg base CX0 1 T.a_is_less T.fd_is_less ["first", "second"] (spD K mg X0 [.fr, .fr] .fr m_is_less) := by
  refine fnD (N := N_is_less) (pm := [.fr, .fr]) (Γl := []) T.F_is_less sc_is_less rfl rfl rfl fun cdv A outer s H E hr => ⟨_, (pss_one (ps_ret (pe_cmpR op_lt (pe_op op_mulX (pe_ix (kx_ix (K := K) rfl) (pv 0) pe_int (fun _ _ => rfl)) (pe_ix (kx_ix (K := K) rfl) (pv 1) pe_int (fun _ _ => rfl))) (pe_op op_mulX (pe_ix (kx_ix (K := K) rfl) (pv 1) pe_int (fun _ _ => rfl)) (pe_ix (kx_ix (K := K) rfl) (pv 0) pe_int (fun _ _ => rfl))) (nomark _)))), fun Bp F0 => ⟨[.fr, .fr], ?_⟩⟩
  unfold b_is_less
  exact (ss_ret (Γ' := [.fr, .fr]) (sx_of (se_op os_lt (se_op os_mul (se_op os_ix (se_var (i := 0) (m := .fr) rfl) se_int) (se_op os_ix (se_var (i := 1) (m := .fr) rfl) se_int)) (se_op os_mul (se_op os_ix (se_var (i := 1) (m := .fr) rfl) se_int) (se_op os_ix (se_var (i := 0) (m := .fr) rfl) se_int)))))
theorem ok_ceiling (T : Tp P K mg) : FnOk P w K mg base CX0 1 T.a_ceiling T.fd_ceiling ["pair"] (spD K mg X0 [.fr] .fr m_ceiling) := by
  refine fnD (N := N_ceiling) (pm := [.fr]) (Γl := []) T.F_ceiling sc_ceiling rfl rfl rfl fun cdv A outer s H E hr => ⟨_, (pss_one (ps_ret (pe_un un_neg (pe_op op_divX (pe_un un_neg (pe_ix (kx_ix (K := K) rfl) (pv 0) pe_int (fun _ _ => rfl))) (pe_ix (kx_ix (K := K) rfl) (pv 0) pe_int (fun _ _ => rfl)))))), fun Bp F0 => ⟨[.fr], ?_⟩⟩
  unfold b_ceiling
  exact (ss_ret (Γ' := [.fr]) (sx_of (se_neg (se_op os_div (se_neg (se_op os_ix (se_var (i := 0) (m := .fr) rfl) se_int)) (se_op os_ix (se_var (i := 0) (m := .fr) rfl) se_int)))))
theorem ok_added (T : Tp P K mg) : FnOk P w K mg base (L2.CX P w) 6 T.a_added T.fd_added ["fractions"] (spD K mg (XO mg ecsX) [.fr] .fr m_added) := by
  have G_plus := ok_plus (P := P) (w := w) (base := base) T
  refine fnDX (N := N_added) (pm := [.fr]) (Γl := [.fr, .fr]) T.F_added sc_added rfl rfl rfl fun cdv A outer s H E hr => ⟨_, (pss_cons (ps_set (i := 1) sc_added.nd rfl (by first | exact Or.inl rfl | exact Or.inr rfl) (pe_glob (v := .ref T.a_ZERO) rfl T.g_ZERO rfl)) (pss_cons (ps_for (passes_of rfl) rfl (kx_seq (K := K) rfl (pv 0)) (pg_name (i := 2) sc_added.nd rfl (by first | exact Or.inl rfl | exact Or.inr rfl)) (pss_one (ps_set (i := 1) sc_added.nd rfl (by first | exact Or.inl rfl | exact Or.inr rfl) (pe_call G_plus (hr.mono (by decide)) (by rfl) T.g_plus T.F_plus.kp T.b_plus .nil px0 (pa_cons (pv 1) (pa_cons (pv 2) pa_nil)))))) (pss_one (ps_ret (pv 1))))), fun Bp F0 => ⟨[.fr, .fr, .fr], ?_⟩⟩
  unfold b_added
  exact (ss_seq (ss_set (i := 1) (m := .fr) (sx_of (se_glob (T.d_ZERO))) (by decide) nio) (ss_seq (ss_for (si_seqS (se_var (i := 0) (m := .fr) rfl)) (sn_name (i := 2) (m := .fr) rfl nio) nx_name (ss_set (i := 1) (m := .fr) (sx_of (se_call (sa_cons (se_var (i := 1) (m := .fr) rfl) (sa_cons (se_var (i := 2) (m := .fr) rfl) sa_nil)) hxI)) (by decide) nio)) (ss_ret (Γ' := [.fr, .fr, .fr]) (sx_of (se_var (i := 1) (m := .fr) rfl)))))
theorem ok_weighted (T : Tp P K mg) : FnOk P w K mg base (L2.CX P w) 7 T.a_weighted T.fd_weighted ["numbers", "fractions"] (spD K mg (XO mg ecsX) [.fr, .fr] .fr m_weighted) := by
  have G_fraction := ok_fraction (P := P) (w := w) (base := base) T
  have G_added := ok_added (P := P) (w := w) (base := base) T
  refine fnDX (N := N_weighted) (pm := [.fr, .fr]) (Γl := [.fr]) T.F_weighted sc_weighted rfl rfl rfl fun cdv A outer s H E hr => ⟨_, (pss_one (ps_ret (pe_call G_added (hr.mono (by decide)) (by rfl) T.g_added T.F_added.kp T.b_added .nil px0 (pa_cons (pe_lc (own := [("k", 2)]) (g := (L2.gName 2)) rfl sc_weighted.nd (pi_range1 rfl T.z_range (pa_cons (pe_callB (kx_len (K := K) rfl) (by rfl) T.z_len (by decide +kernel) (pa_cons (pv 0) pa_nil)) pa_nil)) (blkOk_by (own := [("k", 2)]) (N := N_weighted) (sc := defScope s_weighted) (by decide +kernel)) (fun _ _ _ _ _ => (pg_name (i := 2) sc_weighted.nd rfl (by first | exact Or.inl rfl | exact Or.inr rfl))) (fun _ _ _ _ _ => pts_nil) (fun _ _ _ _ _ => (pe_call G_fraction (hr.mono (by decide)) (by rfl) T.g_fraction T.F_fraction.kp T.b_fraction .nil passN (pa_cons (pe_op op_mulX (pe_ix (kx_ix (K := K) rfl) (pv 0) (pv 2) (fun _ _ => rfl)) (pe_ix (kx_ix (K := K) rfl) (pe_ix (kx_ix (K := K) rfl) (pv 1) (pv 2) (fun _ _ => rfl)) pe_int (fun _ _ => rfl))) (pa_cons (pe_ix (kx_ix (K := K) rfl) (pe_ix (kx_ix (K := K) rfl) (pv 1) (pv 2) (fun _ _ => rfl)) pe_int (fun _ _ => rfl)) pa_nil))))) pa_nil)))), fun Bp F0 => ⟨[.fr, .fr, .fr], ?_⟩⟩
  unfold b_weighted
  exact (ss_ret (Γ' := [.fr, .fr, .fr]) (sx_of (se_call (sa_cons (se_fr (se_lc (vs := [2]) (si_rng1 (sa_cons (se_cb cs_len (sa_cons (se_var (i := 0) (m := .fr) rfl) sa_nil)) sa_nil)) (sn_name (i := 2) (m := .fr) rfl nio) (keeps_name (by decide)) nx_name (by decide) st_yes (se_nx (se_call (sa_cons (se_op os_mul (se_op os_ix (se_var (i := 0) (m := .fr) rfl) (se_var (i := 2) (m := .fr) rfl)) (se_op os_ix (se_op os_ix (se_var (i := 1) (m := .fr) rfl) (se_var (i := 2) (m := .fr) rfl)) se_int)) (sa_cons (se_op os_ix (se_op os_ix (se_var (i := 1) (m := .fr) rfl) (se_var (i := 2) (m := .fr) rfl)) se_int) sa_nil)) hxN)) rfl rfl nioL) rfl) sa_nil) hxI)))
theorem ok_Program_rows (T : Tp P K mg) : FnOk P w K mg base CX0 1 T.a_Program_rows T.fd_Program_rows ["self"] (spD K mg X0 [.fr] (.own .fr) m_Program_rows) := by
  refine fnD (N := N_Program_rows) (pm := [.fr]) (Γl := [.fr, .fr, .fr]) T.F_Program_rows sc_Program_rows rfl rfl rfl fun cdv A outer s H E hr => ⟨_, (pss_one (ps_ret (pe_lc (own := [("numbers", 1), ("relation", 2), ("bound", 3)]) (g := (L2.gTup _ 3 (L2.gCons (L2.gName 1) (L2.gCons (L2.gName 2) (L2.gCons (L2.gName 3) L2.gNil))))) rfl sc_Program_rows.nd (kx_seq (K := K) rfl (kx_fld (K := K) rfl (pv 0) (by rfl))) (blkOk_by (own := [("numbers", 1), ("relation", 2), ("bound", 3)]) (N := N_Program_rows) (sc := defScope s_Program_rows) (by decide +kernel)) (fun _ _ _ _ _ => (pg_tup rfl (pgs_cons (pg_name (i := 1) sc_Program_rows.nd rfl (by first | exact Or.inl rfl | exact Or.inr rfl)) (pgs_cons (pg_name (i := 2) sc_Program_rows.nd rfl (by first | exact Or.inl rfl | exact Or.inr rfl)) (pgs_cons (pg_name (i := 3) sc_Program_rows.nd rfl (by first | exact Or.inl rfl | exact Or.inr rfl)) pgs_nil))))) (fun _ _ _ _ _ => pts_nil) (fun _ _ _ _ _ => (pe_tup (pa_cons (pe_callTy (kx_list (K := K) rfl) (by rfl) T.z_list (by decide +kernel) (pa_cons (pv 1) pa_nil)) (pa_cons (pv 2) (pa_cons (pv 3) pa_nil)))))))), fun Bp F0 => ⟨[.fr, .fr, .fr, .fr], ?_⟩⟩
  unfold b_Program_rows
  exact (ss_ret (Γ' := [.fr, .fr, .fr, .fr]) (sx_of (se_lc (vs := [1, 2, 3]) (si_seqC (se_fld (c := "Program") (f := "_rows") (se_var (i := 0) (m := .fr) rfl) T.g_Program T.cl_Program T.na_Program__rows)) (sn_tup (m := .fr) (is := [1, 2, 3]) (Names.cons (Names.cons (Names.cons Names.nil))) (by decide) nioL) (keeps_tup (by decide)) nx_tup (by decide) st_yes (se_tup (sa_cons (se_fr (se_cb cs_list (sa_cons (se_var (i := 1) (m := .fr) rfl) sa_nil)) rfl) (sa_cons (se_var (i := 2) (m := .fr) rfl) (sa_cons (se_var (i := 3) (m := .fr) rfl) sa_nil))) (by decide)) rfl rfl nioL)))
theorem ok_are_fit (T : Tp P K mg) : FnOk P w K mg base CX0 2 T.a_are_fit T.fd_are_fit ["program", "multipliers"] (spD K mg X0 [.fr, .fr] .fr m_are_fit) := by
  have G_Program_rows := ok_Program_rows (P := P) (w := w) (base := base) T
  refine fnD (N := N_are_fit) (pm := [.fr, .fr]) (Γl := [.fr, .fr]) T.F_are_fit sc_are_fit rfl rfl rfl fun cdv A outer s H E hr => ⟨_, (pss_cons (ps_set (i := 2) sc_are_fit.nd rfl (by first | exact Or.inl rfl | exact Or.inr rfl) (pe_meth0 (pv 0) T.cl_Program T.me_Program_rows G_Program_rows (hr.mono (by decide)) T.b_Program_rows .nil pass0)) (pss_cons (ps_if (pt_cmpR (kx_ne (K := K) rfl hr.units) (pe_callB (kx_len (K := K) rfl) (by rfl) T.z_len (by decide +kernel) (pa_cons (pv 1) pa_nil)) (pe_callB (kx_len (K := K) rfl) (by rfl) T.z_len (by decide +kernel) (pa_cons (pv 2) pa_nil)) (nomark _)) (pss_one (ps_ret pe_bl)) pss_nil) (pss_cons (ps_for PassesOwn.never rfl (pi_range1 rfl T.z_range (pa_cons (pe_callB (kx_len (K := K) rfl) (by rfl) T.z_len (by decide +kernel) (pa_cons (pv 2) pa_nil)) pa_nil)) (pg_name (i := 3) sc_are_fit.nd rfl (by first | exact Or.inl rfl | exact Or.inr rfl)) (pss_one (ps_if (PW.pt (pw_or (PW.pt (pw_and (pt_cmpR (kx_eq (K := K) rfl hr.units) (pe_ix (kx_ix (K := K) rfl) (pe_ix (kx_ix (K := K) rfl) (pv 2) (pv 3) (fun _ _ => rfl)) pe_int (fun _ _ => rfl)) pe_str (nomark _)) (pw_and1 (pt_cmpR op_lt (pe_ix (kx_ix (K := K) rfl) (pe_ix (kx_ix (K := K) rfl) (pv 1) (pv 3) (fun _ _ => rfl)) pe_int (fun _ _ => rfl)) pe_int (nomark _))))) (pw_or1 (PW.pt (pw_and (pt_cmpR (kx_eq (K := K) rfl hr.units) (pe_ix (kx_ix (K := K) rfl) (pe_ix (kx_ix (K := K) rfl) (pv 2) (pv 3) (fun _ _ => rfl)) pe_int (fun _ _ => rfl)) pe_str (nomark _)) (pw_and1 (pt_cmpR op_gt (pe_ix (kx_ix (K := K) rfl) (pe_ix (kx_ix (K := K) rfl) (pv 1) (pv 3) (fun _ _ => rfl)) pe_int (fun _ _ => rfl)) pe_int (nomark _)))))))) (pss_one (ps_ret pe_bl)) pss_nil))) (pss_one (ps_ret pe_bl))))), fun Bp F0 => ⟨[.fr, .fr, .fr, .fr], ?_⟩⟩
  unfold b_are_fit
  exact (ss_seq (ss_set (i := 2) (m := .fr) (sx_of (se_fr (se_meth (mn := "rows") (se_var (i := 0) (m := .fr) rfl) sa_nil T.g_Program hx0) rfl)) (by decide) nio) (ss_seq (ss_if (st_tt (se_op os_ne (se_cb cs_len (sa_cons (se_var (i := 1) (m := .fr) rfl) sa_nil)) (se_cb cs_len (sa_cons (se_var (i := 2) (m := .fr) rfl) sa_nil)))) (ss_ret (Γ' := [.fr, .fr, .fr, .fr]) (sx_of se_bl)) ss_nil) (ss_seq (ss_for (si_rng1 (sa_cons (se_cb cs_len (sa_cons (se_var (i := 2) (m := .fr) rfl) sa_nil)) sa_nil)) (sn_name (i := 3) (m := .fr) rfl nio) nx_name (ss_if (st_or (st_and (st_tt (se_op os_eq (se_op os_ix (se_op os_ix (se_var (i := 2) (m := .fr) rfl) (se_var (i := 3) (m := .fr) rfl)) se_int) se_str)) (st_tt (se_op os_lt (se_op os_ix (se_op os_ix (se_var (i := 1) (m := .fr) rfl) (se_var (i := 3) (m := .fr) rfl)) se_int) se_int))) (st_and (st_tt (se_op os_eq (se_op os_ix (se_op os_ix (se_var (i := 2) (m := .fr) rfl) (se_var (i := 3) (m := .fr) rfl)) se_int) se_str)) (st_tt (se_op os_gt (se_op os_ix (se_op os_ix (se_var (i := 1) (m := .fr) rfl) (se_var (i := 3) (m := .fr) rfl)) se_int) se_int)))) (ss_ret (Γ' := [.fr, .fr, .fr, .fr]) (sx_of se_bl)) ss_nil)) (ss_ret (Γ' := [.fr, .fr, .fr, .fr]) (sx_of se_bl)))))
theorem ok_check_multipliers (T : Tp P K mg) : FnOk P w K mg base (L2.CX P w) 4 T.a_check_multipliers T.fd_check_multipliers ["program", "multipliers"] (spD K mg (XO mg ecsX) [.fr, .fr] .fr m_check_multipliers) := by
  have G_Program_rows := ok_Program_rows (P := P) (w := w) (base := base) T
  refine fnDX (N := N_check_multipliers) (pm := [.fr, .fr]) (Γl := []) T.F_check_multipliers sc_check_multipliers rfl rfl rfl fun cdv A outer s H E hr => ⟨_, (pss_one (ps_if (pt_cmpR (kx_ne (K := K) rfl hr.units) (pe_callB (kx_len (K := K) rfl) (by rfl) T.z_len (by decide +kernel) (pa_cons (pv 1) pa_nil)) (pe_callB (kx_len (K := K) rfl) (by rfl) T.z_len (by decide +kernel) (pa_cons (pe_meth0 (pv 0) T.cl_Program T.me_Program_rows G_Program_rows (hr.mono (by decide)) T.b_Program_rows .nil pass0) pa_nil)) (nomark _)) (pss_one (kx_raise (K := K) (P := P) (mg := mg) rfl rfl rfl T.xi (T.ex _ (nth_mem 4 rfl) _ T.gc_WrongSize) hr (by decide) T.gc_WrongSize rfl rfl tk0 (pa_cons pe_int pa_nil))) pss_nil)), fun Bp F0 => ⟨[.fr, .fr], ?_⟩⟩
  unfold b_check_multipliers
  exact (ss_if (st_tt (se_op os_ne (se_cb cs_len (sa_cons (se_var (i := 1) (m := .fr) rfl) sa_nil)) (se_cb cs_len (sa_cons (se_fr (se_nx (se_meth (mn := "rows") (se_var (i := 0) (m := .fr) rfl) sa_nil T.g_Program hx0)) rfl) sa_nil)))) (ss_raise (c := "WrongSize") (ecs := ecsX) (Γ' := [.fr, .fr]) (sa_cons se_int sa_nil) (T.ex _ (nth_mem 4 rfl) _ T.gc_WrongSize) T.gc_WrongSize (nth_mem 4 rfl) hxI) ss_nil)
theorem ok_Program_count (T : Tp P K mg) : FnOk P w K mg base CX0 1 T.a_Program_count T.fd_Program_count ["self"] (spD K mg X0 [.fr] .fr m_Program_count) := by
  refine fnD (N := N_Program_count) (pm := [.fr]) (Γl := []) T.F_Program_count sc_Program_count rfl rfl rfl fun cdv A outer s H E hr => ⟨_, (pss_one (ps_ret (pe_callB (kx_len (K := K) rfl) (by rfl) T.z_len (by decide +kernel) (pa_cons (kx_fld (K := K) rfl (pv 0) (by rfl)) pa_nil)))), fun Bp F0 => ⟨[.fr], ?_⟩⟩
  unfold b_Program_count
  exact (ss_ret (Γ' := [.fr]) (sx_of (se_cb cs_len (sa_cons (se_fld (c := "Program") (f := "_prices") (se_var (i := 0) (m := .fr) rfl) T.g_Program T.cl_Program T.na_Program__prices) sa_nil))))
theorem ok_loads (T : Tp P K mg) : FnOk P w K mg base (L2.CX P w) 8 T.a_loads T.fd_loads ["program", "multipliers"] (spD K mg (XO mg ecsX) [.fr, .fr] (.own .fr) m_loads) := by
  have G_check_multipliers := ok_check_multipliers (P := P) (w := w) (base := base) T
  have G_Program_rows := ok_Program_rows (P := P) (w := w) (base := base) T
  have G_Program_count := ok_Program_count (P := P) (w := w) (base := base) T
  have G_weighted := ok_weighted (P := P) (w := w) (base := base) T
  refine fnDX (N := N_loads) (pm := [.fr, .fr]) (Γl := [.fr, .fr, .fr, .fr]) T.F_loads sc_loads rfl rfl rfl fun cdv A outer s H E hr => ⟨_, (pss_cons (ps_expr (pe_call G_check_multipliers (hr.mono (by decide)) (by rfl) T.g_check_multipliers T.F_check_multipliers.kp T.b_check_multipliers .nil px0 (pa_cons (pv 0) (pa_cons (pv 1) pa_nil)))) (pss_cons (ps_set (i := 2) sc_loads.nd rfl (by first | exact Or.inl rfl | exact Or.inr rfl) (pe_meth0 (pv 0) T.cl_Program T.me_Program_rows G_Program_rows (hr.mono (by decide)) T.b_Program_rows .nil pass0)) (pss_one (ps_ret (pe_lc (own := [("j", 5)]) (g := (L2.gName 5)) rfl sc_loads.nd (pi_range1 rfl T.z_range (pa_cons (pe_meth0 (pv 0) T.cl_Program T.me_Program_count G_Program_count (hr.mono (by decide)) T.b_Program_count .nil pass0) pa_nil)) (blkOk_by (own := [("j", 5)]) (N := N_loads) (sc := defScope s_loads) (by decide +kernel)) (fun _ _ _ _ _ => (pg_name (i := 5) sc_loads.nd rfl (by first | exact Or.inl rfl | exact Or.inr rfl))) (fun _ _ _ _ _ => pts_nil) (fun _ _ _ _ _ => (pe_call G_weighted (hr.mono (by decide)) (by rfl) T.g_weighted T.F_weighted.kp T.b_weighted .nil passN (pa_cons (pe_lc (own := [("numbers", 3), ("_", 4), ("_", 4)]) (g := (L2.gTup _ 3 (L2.gCons (L2.gName 3) (L2.gCons (L2.gName 4) (L2.gCons (L2.gName 4) L2.gNil))))) rfl sc_loads.nd (kx_seq (K := K) rfl (pv 2)) (blkOk_by (own := [("numbers", 3), ("_", 4), ("_", 4)]) (by kernel_rfl)) (fun _ _ _ _ _ => (pg_tup rfl (pgs_cons (pg_name (i := 3) sc_loads.nd rfl (by first | exact Or.inl rfl | exact Or.inr rfl)) (pgs_cons (pg_name (i := 4) sc_loads.nd rfl (by first | exact Or.inl rfl | exact Or.inr rfl)) (pgs_cons (pg_name (i := 4) sc_loads.nd rfl (by first | exact Or.inl rfl | exact Or.inr rfl)) pgs_nil))))) (fun _ _ _ _ _ => pts_nil) (fun _ _ _ _ _ => (pe_ix (kx_ix (K := K) rfl) (pv 3) (pv 5) (fun _ _ => rfl)))) (pa_cons (pv 1) pa_nil))))))))), fun Bp F0 => ⟨[.fr, .fr, .fr, .fr, .fr, .fr], ?_⟩⟩
  unfold b_loads
  exact (ss_seq (ss_expr (sx_of (se_call (sa_cons (se_var (i := 0) (m := .fr) rfl) (sa_cons (se_var (i := 1) (m := .fr) rfl) sa_nil)) hxI))) (ss_seq (ss_set (i := 2) (m := .fr) (sx_of (se_fr (se_nx (se_meth (mn := "rows") (se_var (i := 0) (m := .fr) rfl) sa_nil T.g_Program hx0)) rfl)) (by decide) nio) (ss_ret (Γ' := [.fr, .fr, .fr, .fr, .fr, .fr]) (sx_of (se_lc (vs := [5]) (si_rng1 (sa_cons (se_nx (se_meth (mn := "count") (se_var (i := 0) (m := .fr) rfl) sa_nil T.g_Program hx0)) sa_nil)) (sn_name (i := 5) (m := .fr) rfl nio) (keeps_name (by decide)) nx_name (by decide) st_yes (se_nx (se_call (sa_cons (se_fr (se_lc (vs := [3, 4, 4]) (si_seqC (se_var (i := 2) (m := .fr) rfl)) (sn_tup (m := .fr) (is := [3, 4, 4]) (Names.cons (Names.cons (Names.cons Names.nil))) (by decide) nioL) (keeps_tup (by decide)) nx_tup (by decide) st_yes (se_op os_ix (se_var (i := 3) (m := .fr) rfl) (se_var (i := 5) (m := .fr) rfl)) rfl rfl nioL) rfl) (sa_cons (se_var (i := 1) (m := .fr) rfl) sa_nil)) hxN)) rfl rfl nioL)))))
theorem ok_gain (T : Tp P K mg) : FnOk P w K mg base (L2.CX P w) 8 T.a_gain T.fd_gain ["program", "multipliers"] (spD K mg (XO mg ecsX) [.fr, .fr] .fr m_gain) := by
  have G_check_multipliers := ok_check_multipliers (P := P) (w := w) (base := base) T
  have G_Program_rows := ok_Program_rows (P := P) (w := w) (base := base) T
  have G_weighted := ok_weighted (P := P) (w := w) (base := base) T
  refine fnDX (N := N_gain) (pm := [.fr, .fr]) (Γl := [.fr, .fr]) T.F_gain sc_gain rfl rfl rfl fun cdv A outer s H E hr => ⟨_, (pss_cons (ps_expr (pe_call G_check_multipliers (hr.mono (by decide)) (by rfl) T.g_check_multipliers T.F_check_multipliers.kp T.b_check_multipliers .nil px0 (pa_cons (pv 0) (pa_cons (pv 1) pa_nil)))) (pss_one (ps_ret (pe_call G_weighted (hr.mono (by decide)) (by rfl) T.g_weighted T.F_weighted.kp T.b_weighted .nil px0 (pa_cons (pe_lc (own := [("_", 2), ("_", 2), ("bound", 3)]) (g := (L2.gTup _ 3 (L2.gCons (L2.gName 2) (L2.gCons (L2.gName 2) (L2.gCons (L2.gName 3) L2.gNil))))) rfl sc_gain.nd (kx_seq (K := K) rfl (pe_meth0 (pv 0) T.cl_Program T.me_Program_rows G_Program_rows (hr.mono (by decide)) T.b_Program_rows .nil pass0)) (blkOk_by (own := [("_", 2), ("_", 2), ("bound", 3)]) (N := N_gain) (sc := defScope s_gain) (by decide +kernel)) (fun _ _ _ _ _ => (pg_tup rfl (pgs_cons (pg_name (i := 2) sc_gain.nd rfl (by first | exact Or.inl rfl | exact Or.inr rfl)) (pgs_cons (pg_name (i := 2) sc_gain.nd rfl (by first | exact Or.inl rfl | exact Or.inr rfl)) (pgs_cons (pg_name (i := 3) sc_gain.nd rfl (by first | exact Or.inl rfl | exact Or.inr rfl)) pgs_nil))))) (fun _ _ _ _ _ => pts_nil) (fun _ _ _ _ _ => (pv 3))) (pa_cons (pv 1) pa_nil)))))), fun Bp F0 => ⟨[.fr, .fr, .fr, .fr], ?_⟩⟩
  unfold b_gain
  exact (ss_seq (ss_expr (sx_of (se_call (sa_cons (se_var (i := 0) (m := .fr) rfl) (sa_cons (se_var (i := 1) (m := .fr) rfl) sa_nil)) hxI))) (ss_ret (Γ' := [.fr, .fr, .fr, .fr]) (sx_of (se_call (sa_cons (se_fr (se_lc (vs := [2, 2, 3]) (si_seqC (se_fr (se_nx (se_meth (mn := "rows") (se_var (i := 0) (m := .fr) rfl) sa_nil T.g_Program hx0)) rfl)) (sn_tup (m := .fr) (is := [2, 2, 3]) (Names.cons (Names.cons (Names.cons Names.nil))) (by decide) nioL) (keeps_tup (by decide)) nx_tup (by decide) st_yes (se_var (i := 3) (m := .fr) rfl) rfl rfl nioL) rfl) (sa_cons (se_var (i := 1) (m := .fr) rfl) sa_nil)) hxI))))
theorem ok_check_program (T : Tp P K mg) : FnOk P w K mg base (L2.CX P w) 4 T.a_check_program T.fd_check_program ["program"] (spD K mg (XO mg ecsX) [.fr] .fr m_check_program) := by
  have G_Program_count := ok_Program_count (P := P) (w := w) (base := base) T
  refine fnDX (N := N_check_program) (pm := [.fr]) (Γl := []) T.F_check_program sc_check_program rfl rfl rfl fun cdv A outer s H E hr => ⟨_, (pss_one (ps_if (pt_cmpR op_gt (pe_meth0 (pv 0) T.cl_Program T.me_Program_count G_Program_count (hr.mono (by decide)) T.b_Program_count .nil pass0) (pe_glob (v := (.int 16)) rfl T.k_MOST_VARIABLES_bounds.choose_spec ⟨_, rfl⟩) (nomark _)) (pss_one (kx_raise (K := K) (P := P) (mg := mg) rfl rfl rfl T.xi (T.ex _ (nth_mem 1 rfl) _ T.gc_TooMany) hr (by decide) T.gc_TooMany rfl rfl tk0 (pa_cons (pe_meth0 (pv 0) T.cl_Program T.me_Program_count G_Program_count (hr.mono (by decide)) T.b_Program_count .nil pass0) pa_nil))) pss_nil)), fun Bp F0 => ⟨[.fr], ?_⟩⟩
  unfold b_check_program
  exact (ss_if (st_tt (se_op os_gt (se_nx (se_meth (mn := "count") (se_var (i := 0) (m := .fr) rfl) sa_nil T.g_Program hx0)) (se_const (m := .fr) rfl rfl))) (ss_raise (c := "TooMany") (ecs := ecsX) (Γ' := [.fr]) (sa_cons (se_nx (se_meth (mn := "count") (se_var (i := 0) (m := .fr) rfl) sa_nil T.g_Program hx0)) sa_nil) (T.ex _ (nth_mem 1 rfl) _ T.gc_TooMany) T.gc_TooMany (nth_mem 1 rfl) hxI) ss_nil)
theorem ok_check_fixing (T : Tp P K mg) : FnOk P w K mg base (L2.CX P w) 5 T.a_check_fixing T.fd_check_fixing ["program", "fixing"] (spD K mg (XO mg ecsX) [.fr, .fr] .fr m_check_fixing) := by
  have G_check_program := ok_check_program (P := P) (w := w) (base := base) T
  have G_Program_count := ok_Program_count (P := P) (w := w) (base := base) T
  refine fnDX (N := N_check_fixing) (pm := [.fr, .fr]) (Γl := [.fr]) T.F_check_fixing sc_check_fixing rfl rfl rfl fun cdv A outer s H E hr => ⟨_, (pss_cons (ps_expr (pe_call G_check_program (hr.mono (by decide)) (by rfl) T.g_check_program T.F_check_program.kp T.b_check_program .nil px0 (pa_cons (pv 0) pa_nil))) (pss_cons (ps_if (pt_cmpR (kx_ne (K := K) rfl hr.units) (pe_callB (kx_len (K := K) rfl) (by rfl) T.z_len (by decide +kernel) (pa_cons (pv 1) pa_nil)) (pe_meth0 (pv 0) T.cl_Program T.me_Program_count G_Program_count (hr.mono (by decide)) T.b_Program_count .nil pass0) (nomark _)) (pss_one (kx_raise (K := K) (P := P) (mg := mg) rfl rfl rfl T.xi (T.ex _ (nth_mem 4 rfl) _ T.gc_WrongSize) hr (by decide) T.gc_WrongSize rfl rfl tk0 (pa_cons pe_int pa_nil))) pss_nil) (pss_one (ps_for (passes_of rfl) rfl (pi_range1 rfl T.z_range (pa_cons (pe_callB (kx_len (K := K) rfl) (by rfl) T.z_len (by decide +kernel) (pa_cons (pv 1) pa_nil)) pa_nil)) (pg_name (i := 2) sc_check_fixing.nd rfl (by first | exact Or.inl rfl | exact Or.inr rfl)) (pss_one (ps_if (PW.pt (pw_and (pt_cmpR op_notN (pe_ix (kx_ix (K := K) rfl) (pv 1) (pv 2) (fun _ _ => rfl)) pe_non (nomark _)) (pw_and1 (pt_not (pt_chain op_le op_le pe_int (pe_ix (kx_ix (K := K) rfl) (pv 1) (pv 2) (fun _ _ => rfl)) pe_int))))) (pss_one (kx_raise (K := K) (P := P) (mg := mg) rfl rfl rfl T.xi (T.ex _ (nth_mem 5 rfl) _ T.gc_BadFixing) hr (by decide) T.gc_BadFixing rfl rfl tk0 (pa_cons (pv 2) pa_nil))) pss_nil)))))), fun Bp F0 => ⟨[.fr, .fr, .fr], ?_⟩⟩
  unfold b_check_fixing
  exact (ss_seq (ss_expr (sx_of (se_call (sa_cons (se_var (i := 0) (m := .fr) rfl) sa_nil) hxI))) (ss_seq (ss_if (st_tt (se_op os_ne (se_cb cs_len (sa_cons (se_var (i := 1) (m := .fr) rfl) sa_nil)) (se_nx (se_meth (mn := "count") (se_var (i := 0) (m := .fr) rfl) sa_nil T.g_Program hx0)))) (ss_raise (c := "WrongSize") (ecs := ecsX) (Γ' := [.fr, .fr, .fr]) (sa_cons se_int sa_nil) (T.ex _ (nth_mem 4 rfl) _ T.gc_WrongSize) T.gc_WrongSize (nth_mem 4 rfl) hxI) ss_nil) (ss_for (si_rng1 (sa_cons (se_cb cs_len (sa_cons (se_var (i := 1) (m := .fr) rfl) sa_nil)) sa_nil)) (sn_name (i := 2) (m := .fr) rfl nio) nx_name (ss_if (st_and (st_tt (se_op os_notN (se_op os_ix (se_var (i := 1) (m := .fr) rfl) (se_var (i := 2) (m := .fr) rfl)) se_non)) (st_not (st_tt (se_chain os_le os_le se_int (se_op os_ix (se_var (i := 1) (m := .fr) rfl) (se_var (i := 2) (m := .fr) rfl)) se_int)))) (ss_raise (c := "BadFixing") (ecs := ecsX) (Γ' := [.fr, .fr, .fr]) (sa_cons (se_var (i := 2) (m := .fr) rfl) sa_nil) (T.ex _ (nth_mem 5 rfl) _ T.gc_BadFixing) T.gc_BadFixing (nth_mem 5 rfl) hxI) ss_nil))))
theorem ok_least_part (T : Tp P K mg) : FnOk P w K mg base (L2.CX P w) 6 T.a_least_part T.fd_least_part ["price", "load", "fixed"] (spD K mg (XO mg ecsX) [.fr, .fr, .fr] .fr m_least_part) := by
  have G_minus := ok_minus (P := P) (w := w) (base := base) T
  refine fnDX (N := N_least_part) (pm := [.fr, .fr, .fr]) (Γl := [.fr]) T.F_least_part sc_least_part rfl rfl rfl fun cdv A outer s H E hr => ⟨_, (pss_cons (ps_set (i := 3) sc_least_part.nd rfl (by first | exact Or.inl rfl | exact Or.inr rfl) (pe_call G_minus (hr.mono (by decide)) (by rfl) T.g_minus T.F_minus.kp T.b_minus .nil px0 (pa_cons (pe_tup (pa_cons (pv 0) (pa_cons pe_int pa_nil))) (pa_cons (pv 1) pa_nil)))) (pss_cons (ps_if (pt_cmpR (kx_eq (K := K) rfl hr.units) (pv 2) pe_int (nomark _)) (pss_one (ps_ret (pv 3))) pss_nil) (pss_cons (ps_if (PW.pt (pw_or (pt_cmpR (kx_eq (K := K) rfl hr.units) (pv 2) pe_int (nomark _)) (pw_or1 (pt_cmpR op_gt (pe_ix (kx_ix (K := K) rfl) (pv 3) pe_int (fun _ _ => rfl)) pe_int (nomark _))))) (pss_one (ps_ret (pe_glob (v := .ref T.a_ZERO) rfl T.g_ZERO rfl))) pss_nil) (pss_one (ps_ret (pv 3)))))), fun Bp F0 => ⟨[.fr, .fr, .fr, .fr], ?_⟩⟩
  unfold b_least_part
  exact (ss_seq (ss_set (i := 3) (m := .fr) (sx_of (se_call (sa_cons (se_tup (sa_cons (se_var (i := 0) (m := .fr) rfl) (sa_cons se_int sa_nil)) (by decide)) (sa_cons (se_var (i := 1) (m := .fr) rfl) sa_nil)) hxI)) (by decide) nio) (ss_seq (ss_if (st_tt (se_op os_eq (se_var (i := 2) (m := .fr) rfl) se_int)) (ss_ret (Γ' := [.fr, .fr, .fr, .fr]) (sx_of (se_var (i := 3) (m := .fr) rfl))) ss_nil) (ss_seq (ss_if (st_or (st_tt (se_op os_eq (se_var (i := 2) (m := .fr) rfl) se_int)) (st_tt (se_op os_gt (se_op os_ix (se_var (i := 3) (m := .fr) rfl) se_int) se_int))) (ss_ret (Γ' := [.fr, .fr, .fr, .fr]) (sx_of (se_glob (T.d_ZERO)))) ss_nil) (ss_ret (Γ' := [.fr, .fr, .fr, .fr]) (sx_of (se_var (i := 3) (m := .fr) rfl))))))
theorem ok_bound_of (T : Tp P K mg) : FnOk P w K mg base (L2.CX P w) 9 T.a_bound_of T.fd_bound_of ["program", "prices", "fixing", "multipliers"] (spD K mg (XO mg ecsX) [.fr, .fr, .fr, .fr] .fr m_bound_of) := by
  have G_loads := ok_loads (P := P) (w := w) (base := base) T
  have G_least_part := ok_least_part (P := P) (w := w) (base := base) T
  have G_gain := ok_gain (P := P) (w := w) (base := base) T
  have G_added := ok_added (P := P) (w := w) (base := base) T
  have G_plus := ok_plus (P := P) (w := w) (base := base) T
  refine fnDX (N := N_bound_of) (pm := [.fr, .fr, .fr, .fr]) (Γl := [.fr, .fr, .fr, .fr]) T.F_bound_of sc_bound_of rfl rfl rfl fun cdv A outer s H E hr => ⟨_, (pss_cons (ps_setLc (i := 4) (own := [("price", 5), ("load", 6), ("fixed", 7)]) (g := (L2.gTup _ 3 (L2.gCons (L2.gName 5) (L2.gCons (L2.gName 6) (L2.gCons (L2.gName 7) L2.gNil))))) rfl sc_bound_of.nd rfl rfl (sw_true rfl rfl rfl (by decide +kernel)) (pi_zip3 rfl T.z_zip (pa_cons (pv 1) (pa_cons (pe_call G_loads (hr.mono (by decide)) (by rfl) T.g_loads T.F_loads.kp T.b_loads .nil px0 (pa_cons (pv 0) (pa_cons (pv 3) pa_nil))) (pa_cons (pv 2) pa_nil)))) (blkOk_by (own := [("price", 5), ("load", 6), ("fixed", 7)]) (N := N_bound_of) (sc := defScope s_bound_of) (by decide +kernel)) (fun _ _ _ _ _ => (pg_tup rfl (pgs_cons (pg_name (i := 5) sc_bound_of.nd rfl (by first | exact Or.inl rfl | exact Or.inr rfl)) (pgs_cons (pg_name (i := 6) sc_bound_of.nd rfl (by first | exact Or.inl rfl | exact Or.inr rfl)) (pgs_cons (pg_name (i := 7) sc_bound_of.nd rfl (by first | exact Or.inl rfl | exact Or.inr rfl)) pgs_nil))))) (fun _ _ _ _ _ => pts_nil) (fun _ _ _ _ _ => (pe_call G_least_part (hr.mono (by decide)) (by rfl) T.g_least_part T.F_least_part.kp T.b_least_part .nil passN (pa_cons (pv 5) (pa_cons (pv 6) (pa_cons (pv 7) pa_nil)))))) (pss_one (ps_ret (pe_call G_plus (hr.mono (by decide)) (by rfl) T.g_plus T.F_plus.kp T.b_plus .nil px0 (pa_cons (pe_call G_gain (hr.mono (by decide)) (by rfl) T.g_gain T.F_gain.kp T.b_gain .nil px0 (pa_cons (pv 0) (pa_cons (pv 3) pa_nil))) (pa_cons (pe_call G_added (hr.mono (by decide)) (by rfl) T.g_added T.F_added.kp T.b_added .nil px0 (pa_cons (pv 4) pa_nil)) pa_nil)))))), fun Bp F0 => ⟨[.fr, .fr, .fr, .fr, .fr, .fr, .fr, .fr], ?_⟩⟩
  unfold b_bound_of
  exact (ss_seq (ss_set (i := 4) (sx_of (se_fr (se_lc (vs := [5, 6, 7]) (si_zip3 (sa_cons (se_var (i := 1) (m := .fr) rfl) (sa_cons (se_fr (se_call (sa_cons (se_var (i := 0) (m := .fr) rfl) (sa_cons (se_var (i := 3) (m := .fr) rfl) sa_nil)) hxI) rfl) (sa_cons (se_var (i := 2) (m := .fr) rfl) sa_nil)))) (sn_tup (m := .fr) (is := [5, 6, 7]) (Names.cons (Names.cons (Names.cons Names.nil))) (by decide) nioL) (keeps_tup (by decide)) nx_tup (by decide) st_yes (se_nx (se_call (sa_cons (se_var (i := 5) (m := .fr) rfl) (sa_cons (se_var (i := 6) (m := .fr) rfl) (sa_cons (se_var (i := 7) (m := .fr) rfl) sa_nil))) hxN)) rfl rfl nioL) rfl)) (by decide) nio) (ss_ret (Γ' := [.fr, .fr, .fr, .fr, .fr, .fr, .fr, .fr]) (sx_of (se_call (sa_cons (se_call (sa_cons (se_var (i := 0) (m := .fr) rfl) (sa_cons (se_var (i := 3) (m := .fr) rfl) sa_nil)) hxI) (sa_cons (se_call (sa_cons (se_var (i := 4) (m := .fr) rfl) sa_nil) hxI) sa_nil)) hxI))))
theorem ok_Program_prices (T : Tp P K mg) : FnOk P w K mg base CX0 1 T.a_Program_prices T.fd_Program_prices ["self"] (spD K mg X0 [.fr] (.own .fr) m_Program_prices) := by
  refine fnD (N := N_Program_prices) (pm := [.fr]) (Γl := []) T.F_Program_prices sc_Program_prices rfl rfl rfl fun cdv A outer s H E hr => ⟨_, (pss_one (ps_ret (pe_callTy (kx_list (K := K) rfl) (by rfl) T.z_list (by decide +kernel) (pa_cons (kx_fld (K := K) rfl (pv 0) (by rfl)) pa_nil)))), fun Bp F0 => ⟨[.fr], ?_⟩⟩
  unfold b_Program_prices
  exact (ss_ret (Γ' := [.fr]) (sx_of (se_cb cs_list (sa_cons (se_fld (c := "Program") (f := "_prices") (se_var (i := 0) (m := .fr) rfl) T.g_Program T.cl_Program T.na_Program__prices) sa_nil))))
theorem ok_case_bound (T : Tp P K mg) : FnOk P w K mg base (L2.CX P w) 10 T.a_case_bound T.fd_case_bound ["program", "fixing", "multipliers"] (spD K mg (XO mg ecsX) [.fr, .fr, .fr] .fr m_case_bound) := by
  have G_check_fixing := ok_check_fixing (P := P) (w := w) (base := base) T
  have G_Program_prices := ok_Program_prices (P := P) (w := w) (base := base) T
  have G_bound_of := ok_bound_of (P := P) (w := w) (base := base) T
  refine fnDX (N := N_case_bound) (pm := [.fr, .fr, .fr]) (Γl := []) T.F_case_bound sc_case_bound rfl rfl rfl fun cdv A outer s H E hr => ⟨_, (pss_cons (ps_expr (pe_call G_check_fixing (hr.mono (by decide)) (by rfl) T.g_check_fixing T.F_check_fixing.kp T.b_check_fixing .nil px0 (pa_cons (pv 0) (pa_cons (pv 1) pa_nil)))) (pss_one (ps_ret (pe_call G_bound_of (hr.mono (by decide)) (by rfl) T.g_bound_of T.F_bound_of.kp T.b_bound_of .nil px0 (pa_cons (pv 0) (pa_cons (pe_meth0 (pv 0) T.cl_Program T.me_Program_prices G_Program_prices (hr.mono (by decide)) T.b_Program_prices .nil pass0) (pa_cons (pv 1) (pa_cons (pv 2) pa_nil)))))))), fun Bp F0 => ⟨[.fr, .fr, .fr], ?_⟩⟩
  unfold b_case_bound
  exact (ss_seq (ss_expr (sx_of (se_call (sa_cons (se_var (i := 0) (m := .fr) rfl) (sa_cons (se_var (i := 1) (m := .fr) rfl) sa_nil)) hxI))) (ss_ret (Γ' := [.fr, .fr, .fr]) (sx_of (se_call (sa_cons (se_var (i := 0) (m := .fr) rfl) (sa_cons (se_fr (se_nx (se_meth (mn := "prices") (se_var (i := 0) (m := .fr) rfl) sa_nil T.g_Program hx0)) rfl) (sa_cons (se_var (i := 1) (m := .fr) rfl) (sa_cons (se_var (i := 2) (m := .fr) rfl) sa_nil)))) hxI))))
theorem ok_shows_none (T : Tp P K mg) : FnOk P w K mg base (L2.CX P w) 10 T.a_shows_none T.fd_shows_none ["program", "fixing", "multipliers"] (spD K mg (XO mg ecsX) [.fr, .fr, .fr] .fr m_shows_none) := by
  have G_check_fixing := ok_check_fixing (P := P) (w := w) (base := base) T
  have G_are_fit := ok_are_fit (P := P) (w := w) (base := base) T
  have G_Program_count := ok_Program_count (P := P) (w := w) (base := base) T
  have G_bound_of := ok_bound_of (P := P) (w := w) (base := base) T
  have G_is_less := ok_is_less (P := P) (w := w) (base := base) T
  refine fnDX (N := N_shows_none) (pm := [.fr, .fr, .fr]) (Γl := []) T.F_shows_none sc_shows_none rfl rfl rfl fun cdv A outer s H E hr => ⟨_, (pss_cons (ps_expr (pe_call G_check_fixing (hr.mono (by decide)) (by rfl) T.g_check_fixing T.F_check_fixing.kp T.b_check_fixing .nil px0 (pa_cons (pv 0) (pa_cons (pv 1) pa_nil)))) (pss_cons (ps_if (pt_not (pt_val (pe_call G_are_fit (hr.mono (by decide)) (by rfl) T.g_are_fit T.F_are_fit.kp T.b_are_fit .nil pass0 (pa_cons (pv 0) (pa_cons (pv 2) pa_nil))))) (pss_one (ps_ret pe_bl)) pss_nil) (pss_one (ps_ret (pe_call G_is_less (hr.mono (by decide)) (by rfl) T.g_is_less T.F_is_less.kp T.b_is_less .nil pass0 (pa_cons (pe_glob (v := .ref T.a_ZERO) rfl T.g_ZERO rfl) (pa_cons (pe_call G_bound_of (hr.mono (by decide)) (by rfl) T.g_bound_of T.F_bound_of.kp T.b_bound_of .nil passN (pa_cons (pv 0) (pa_cons (pe_op op_rep (pe_lst (pa_cons pe_int pa_nil)) (pe_meth0 (pv 0) T.cl_Program T.me_Program_count G_Program_count (hr.mono (by decide)) T.b_Program_count .nil pass0)) (pa_cons (pv 1) (pa_cons (pv 2) pa_nil))))) pa_nil))))))), fun Bp F0 => ⟨[.fr, .fr, .fr], ?_⟩⟩
  unfold b_shows_none
  exact (ss_seq (ss_expr (sx_of (se_call (sa_cons (se_var (i := 0) (m := .fr) rfl) (sa_cons (se_var (i := 1) (m := .fr) rfl) sa_nil)) hxI))) (ss_seq (ss_if (st_not (st_b (se_nx (se_call (sa_cons (se_var (i := 0) (m := .fr) rfl) (sa_cons (se_var (i := 2) (m := .fr) rfl) sa_nil)) hx0)))) (ss_ret (Γ' := [.fr, .fr, .fr]) (sx_of se_bl)) ss_nil) (ss_ret (Γ' := [.fr, .fr, .fr]) (sx_of (se_nx (se_call (sa_cons (se_glob (T.d_ZERO)) (sa_cons (se_nx (se_call (sa_cons (se_var (i := 0) (m := .fr) rfl) (sa_cons (se_fr (se_op os_rep (se_lst (m := .fr) (sa_cons se_int sa_nil) (by decide)) (se_nx (se_meth (mn := "count") (se_var (i := 0) (m := .fr) rfl) sa_nil T.g_Program hx0))) rfl) (sa_cons (se_var (i := 1) (m := .fr) rfl) (sa_cons (se_var (i := 2) (m := .fr) rfl) sa_nil)))) hxN)) sa_nil)) hx0))))))
theorem ok_first_list (T : Tp P K mg) : FnOk P w K mg base CX0 1 T.a_first_list T.fd_first_list ["fixing"] (spD K mg X0 [.fr] (.own .fr) m_first_list) := by
  refine fnD (N := N_first_list) (pm := [.fr]) (Γl := [.fr]) T.F_first_list sc_first_list rfl rfl rfl fun cdv A outer s H E hr => ⟨_, (pss_one (ps_ret (pe_lc (own := [("fixed", 1)]) (g := (L2.gName 1)) rfl sc_first_list.nd (kx_seq (K := K) rfl (pv 0)) (blkOk_by (own := [("fixed", 1)]) (N := N_first_list) (sc := defScope s_first_list) (by decide +kernel)) (fun _ _ _ _ _ => (pg_name (i := 1) sc_first_list.nd rfl (by first | exact Or.inl rfl | exact Or.inr rfl))) (fun _ _ _ _ _ => pts_nil) (fun _ _ _ _ _ => (pe_ifExp (pt_cmpR op_isN (pv 1) pe_non (nomark _)) pe_int (pv 1)))))), fun Bp F0 => ⟨[.fr, .fr], ?_⟩⟩
  unfold b_first_list
  exact (ss_ret (Γ' := [.fr, .fr]) (sx_of (se_lc (vs := [1]) (si_seqC (se_var (i := 0) (m := .fr) rfl)) (sn_name (i := 1) (m := .fr) rfl nio) (keeps_name (by decide)) nx_name (by decide) st_yes (se_if (st_tt (se_op os_isN (se_var (i := 1) (m := .fr) rfl) se_non)) se_int (se_var (i := 1) (m := .fr) rfl)) rfl rfl nioL)))
theorem ok_closes (T : Tp P K mg) : FnOk P w K mg base (L2.CX P w) 10 T.a_closes T.fd_closes ["program", "fixing", "multipliers", "value", "told"] (spD K mg (XO mg ecsX) [.fr, .fr, .fr, .fr, .fr] .fr m_closes) := by
  have G_check_fixing := ok_check_fixing (P := P) (w := w) (base := base) T
  have G_are_fit := ok_are_fit (P := P) (w := w) (base := base) T
  have G_Program_prices := ok_Program_prices (P := P) (w := w) (base := base) T
  have G_bound_of := ok_bound_of (P := P) (w := w) (base := base) T
  have G_ceiling := ok_ceiling (P := P) (w := w) (base := base) T
  have G_first_list := ok_first_list (P := P) (w := w) (base := base) T
  refine fnDX (N := N_closes) (pm := [.fr, .fr, .fr, .fr, .fr]) (Γl := [.fr]) T.F_closes sc_closes rfl rfl rfl fun cdv A outer s H E hr => ⟨_, (pss_cons (ps_expr (pe_call G_check_fixing (hr.mono (by decide)) (by rfl) T.g_check_fixing T.F_check_fixing.kp T.b_check_fixing .nil px0 (pa_cons (pv 0) (pa_cons (pv 1) pa_nil)))) (pss_cons (ps_if (pt_not (pt_val (pe_call G_are_fit (hr.mono (by decide)) (by rfl) T.g_are_fit T.F_are_fit.kp T.b_are_fit .nil pass0 (pa_cons (pv 0) (pa_cons (pv 2) pa_nil))))) (pss_one (ps_ret pe_bl)) pss_nil) (pss_cons (ps_set (i := 5) sc_closes.nd rfl (by first | exact Or.inl rfl | exact Or.inr rfl) (pe_call G_ceiling (hr.mono (by decide)) (by rfl) T.g_ceiling T.F_ceiling.kp T.b_ceiling .nil pass0 (pa_cons (pe_call G_bound_of (hr.mono (by decide)) (by rfl) T.g_bound_of T.F_bound_of.kp T.b_bound_of .nil passN (pa_cons (pv 0) (pa_cons (pe_meth0 (pv 0) T.cl_Program T.me_Program_prices G_Program_prices (hr.mono (by decide)) T.b_Program_prices .nil pass0) (pa_cons (pv 1) (pa_cons (pv 2) pa_nil))))) pa_nil))) (pss_one (ps_ret (pe_or (pe_cmpR op_gt (pv 5) (pv 3) (nomark _)) (pe_one (pe_and (pe_cmpR (kx_eq (K := K) rfl hr.units) (pv 5) (pv 3) (nomark _)) (pe_one (pe_cmpR (kx_geD (K := K) rfl hr.units65) (pe_call G_first_list (hr.mono (by decide)) (by rfl) T.g_first_list T.F_first_list.kp T.b_first_list .nil pass0 (pa_cons (pv 1) pa_nil)) (pv 4) (nomark _))))))))))), fun Bp F0 => ⟨[.fr, .fr, .fr, .fr, .fr, .fr], ?_⟩⟩
  unfold b_closes
  exact (ss_seq (ss_expr (sx_of (se_call (sa_cons (se_var (i := 0) (m := .fr) rfl) (sa_cons (se_var (i := 1) (m := .fr) rfl) sa_nil)) hxI))) (ss_seq (ss_if (st_not (st_b (se_nx (se_call (sa_cons (se_var (i := 0) (m := .fr) rfl) (sa_cons (se_var (i := 2) (m := .fr) rfl) sa_nil)) hx0)))) (ss_ret (Γ' := [.fr, .fr, .fr, .fr, .fr, .fr]) (sx_of se_bl)) ss_nil) (ss_seq (ss_set (i := 5) (m := .fr) (sx_of (se_nx (se_call (sa_cons (se_nx (se_call (sa_cons (se_var (i := 0) (m := .fr) rfl) (sa_cons (se_fr (se_nx (se_meth (mn := "prices") (se_var (i := 0) (m := .fr) rfl) sa_nil T.g_Program hx0)) rfl) (sa_cons (se_var (i := 1) (m := .fr) rfl) (sa_cons (se_var (i := 2) (m := .fr) rfl) sa_nil)))) hxN)) sa_nil) hx0))) (by decide) nio) (ss_ret (Γ' := [.fr, .fr, .fr, .fr, .fr, .fr]) (sx_of (se_orV (se_op os_gt (se_var (i := 5) (m := .fr) rfl) (se_var (i := 3) (m := .fr) rfl)) (se_andV (se_op os_eq (se_var (i := 5) (m := .fr) rfl) (se_var (i := 3) (m := .fr) rfl)) (se_op os_ordD (se_fr (se_nx (se_call (sa_cons (se_var (i := 1) (m := .fr) rfl) sa_nil) hx0)) rfl) (se_var (i := 4) (m := .fr) rfl)))))))))
theorem ok__law_numbers (T : Tp P K mg) : FnOk P w K mg base CX0 1 T.a__law_numbers T.fd__law_numbers ["_law_script", "_law_many"] (spD K mg X0 [.sc, .fr] (.own .fr) m__law_numbers) := by
  refine fnD (N := N__law_numbers) (pm := [.sc, .fr]) (Γl := [(.own .fr), .fr, (.own .fr), (.own .fr), .fr, .fr]) T.F__law_numbers sc__law_numbers rfl rfl rfl fun cdv A outer s H E hr => ⟨_, (pss_cons (ps_set (i := 2) sc__law_numbers.nd rfl (by first | exact Or.inl rfl | exact Or.inr rfl) (pe_op op_addX (pe_lc (own := [("_law_cell", 3)]) (g := (L2.gName 3)) rfl sc__law_numbers.nd (kx_seq (K := K) rfl (pe_slice (kx_sl (K := K) rfl) (pv 0) po_none (po_some pe_int))) (blkOk_by (own := [("_law_cell", 3)]) (N := N__law_numbers) (sc := defScope s__law_numbers) (by decide +kernel)) (fun _ _ _ _ _ => (pg_name (i := 3) sc__law_numbers.nd rfl (by first | exact Or.inl rfl | exact Or.inr rfl))) (fun _ _ _ _ _ => pts_nil) (fun _ _ _ _ _ => (pe_callB call_abs (by rfl) T.z_abs (by decide +kernel) (pa_cons (pv 3) pa_nil)))) (pe_lst (pa_cons pe_int pa_nil)))) (pss_cons (ps_if (pt_cmpR op_gt (pe_callB (kx_len (K := K) rfl) (by rfl) T.z_len (by decide +kernel) (pa_cons (pv 0) pa_nil)) pe_int (nomark _)) (pss_one (ps_set (i := 2) sc__law_numbers.nd rfl (by first | exact Or.inl rfl | exact Or.inr rfl) (pe_slice (kx_sl (K := K) rfl) (pv 2) po_none (po_some (pe_un un_neg pe_int))))) pss_nil) (pss_cons (ps_setLc (i := 4) (own := [("_law_cell", 3)]) (g := (L2.gName 3)) rfl sc__law_numbers.nd rfl rfl (sw_true rfl rfl rfl (by decide +kernel)) (kx_seq (K := K) rfl (pv 2)) (blkOk_by (own := [("_law_cell", 3)]) (N := N__law_numbers) (sc := defScope s__law_numbers) (by decide +kernel)) (fun _ _ _ _ _ => (pg_name (i := 3) sc__law_numbers.nd rfl (by first | exact Or.inl rfl | exact Or.inr rfl))) (fun _ _ _ _ _ => pts_nil) (fun _ _ _ _ _ => (pe_op op_modX (pe_callTy call_int1 (by rfl) T.z_int (by decide +kernel) (pa_cons (pe_op op_addX (pe_op op_mulX (pv 3) pe_int) pe_int) pa_nil)) pe_int))) (pss_cons (ps_set (i := 5) sc__law_numbers.nd rfl (by first | exact Or.inl rfl | exact Or.inr rfl) (pe_lst pa_nil)) (pss_cons (ps_for PassesOwn.never rfl (pi_range1 rfl T.z_range (pa_cons (pv 1) pa_nil)) (pg_name (i := 6) sc__law_numbers.nd rfl (by first | exact Or.inl rfl | exact Or.inr rfl)) (pss_cons (ps_set (i := 7) sc__law_numbers.nd rfl (by first | exact Or.inl rfl | exact Or.inr rfl) (pe_op op_modX (pe_callTy call_int1 (by rfl) T.z_int (by decide +kernel) (pa_cons (pv 6) pa_nil)) (pe_callB (kx_len (K := K) rfl) (by rfl) T.z_len (by decide +kernel) (pa_cons (pv 2) pa_nil)))) (pss_one (ps_if (pt_cmpR op_ge (pe_ix (kx_ix (K := K) rfl) (pv 2) (pv 7) (fun _ _ => rfl)) (pe_op op_pow pe_int pe_int) (nomark _)) (pss_cons (ps_expr (pe_bm PySem.F.plainAttrs_list PySem.F.slot_list_append PySem.F.type_list_append mt_append (pv 5) (pa_cons (pe_op op_modX (pe_callTy call_int1 (by rfl) T.z_int (by decide +kernel) (pa_cons (pe_ix (kx_ix (K := K) rfl) (pv 2) (pv 7) (fun _ _ => rfl)) pa_nil)) pe_int) pa_nil))) (pss_one (ps_asg (pe_op op_divX (pe_ix (kx_ix (K := K) rfl) (pv 2) (pv 7) (fun _ _ => rfl)) pe_int) (pg_sub (pv 2) (pv 7) set_list)))) (pss_cons (ps_asg (pe_op op_modX (pe_callTy call_int1 (by rfl) T.z_int (by decide +kernel) (pa_cons (pe_op op_addX (pe_op op_addX (pe_op op_mulX (pe_ix (kx_ix (K := K) rfl) (pv 4) (pv 7) (fun _ _ => rfl)) pe_int) pe_int) (pe_op op_mulX pe_int (pv 6))) pa_nil)) pe_int) (pg_sub (pv 4) (pv 7) set_list)) (pss_one (ps_expr (pe_bm PySem.F.plainAttrs_list PySem.F.slot_list_append PySem.F.type_list_append mt_append (pv 5) (pa_cons (pe_op op_modX (pe_callTy call_int1 (by rfl) T.z_int (by decide +kernel) (pa_cons (pe_op op_addX (pe_ix (kx_ix (K := K) rfl) (pv 2) (pv 7) (fun _ _ => rfl)) (pe_op op_divX (pe_ix (kx_ix (K := K) rfl) (pv 4) (pv 7) (fun _ _ => rfl)) pe_int)) pa_nil)) pe_int) pa_nil))))))))) (pss_one (ps_ret (pv 5)))))))), fun Bp F0 => ⟨[.sc, .fr, (.own .fr), .fr, (.own .fr), (.own .fr), .fr, .fr], ?_⟩⟩
  unfold b__law_numbers
  exact (ss_seq (ss_set (i := 2) (m := (.own .fr)) (sx_of (se_op os_add (se_fr (se_lc (vs := [3]) (si_seqC (se_fr (se_sl (se_var (i := 0) (m := .sc) rfl) so_none (so_some se_int)) rfl)) (sn_name (i := 3) (m := .fr) rfl nio) (keeps_name (by decide)) nx_name (by decide) st_yes (se_cb cs_abs (sa_cons (se_var (i := 3) (m := .fr) rfl) sa_nil)) rfl rfl nioL) rfl) (se_fr (se_lst (m := .fr) (sa_cons se_int sa_nil) (by decide)) rfl))) (by decide) nio) (ss_seq (ss_if (st_tt (se_op os_gt (se_cb cs_len (sa_cons (se_var (i := 0) (m := .sc) rfl) sa_nil)) se_int)) (ss_set (i := 2) (m := (.own .fr)) (sx_of (se_sl (se_var (i := 2) (m := (.own .fr)) rfl) so_none (so_some (se_neg se_int)))) (by decide) nio) ss_nil) (ss_seq (ss_set (i := 4) (sx_of (se_lc (vs := [3]) (si_seqC (se_var (i := 2) (m := (.own .fr)) rfl)) (sn_name (i := 3) (m := .fr) rfl nio) (keeps_name (by decide)) nx_name (by decide) st_yes (se_op os_mod (se_cb cs_int (sa_cons (se_fr (se_op os_add (se_op os_mul (se_var (i := 3) (m := .fr) rfl) se_int) se_int) rfl) sa_nil)) se_int) rfl rfl nioL)) (by decide) nio) (ss_seq (ss_set (i := 5) (m := (.own .fr)) (sx_of (se_lst (m := .fr) sa_nil (by decide))) (by decide) nio) (ss_seq (ss_for (si_rng1 (sa_cons (se_var (i := 1) (m := .fr) rfl) sa_nil)) (sn_name (i := 6) (m := .fr) rfl nio) nx_name (ss_seq (ss_set (i := 7) (m := .fr) (sx_of (se_op os_mod (se_cb cs_int (sa_cons (se_var (i := 6) (m := .fr) rfl) sa_nil)) (se_cb cs_len (sa_cons (se_var (i := 2) (m := (.own .fr)) rfl) sa_nil)))) (by decide) nio) (ss_if (st_tt (se_op os_ge (se_op os_ix (se_var (i := 2) (m := (.own .fr)) rfl) (se_var (i := 7) (m := .fr) rfl)) (se_op os_pow se_int se_int))) (ss_seq (ss_expr (sx_app (i := 5) (m := .fr) rfl (sx_of (se_op os_mod (se_cb cs_int (sa_cons (se_op os_ix (se_var (i := 2) (m := (.own .fr)) rfl) (se_var (i := 7) (m := .fr) rfl)) sa_nil)) se_int)) rfl)) (ss_seti (i := 2) (m := .fr) rfl (sx_of (se_op os_div (se_op os_ix (se_var (i := 2) (m := (.own .fr)) rfl) (se_var (i := 7) (m := .fr) rfl)) se_int)) (se_var (i := 7) (m := .fr) rfl) rfl)) (ss_seq (ss_seti (i := 4) (m := .fr) rfl (sx_of (se_op os_mod (se_cb cs_int (sa_cons (se_fr (se_op os_add (se_fr (se_op os_add (se_op os_mul (se_op os_ix (se_var (i := 4) (m := (.own .fr)) rfl) (se_var (i := 7) (m := .fr) rfl)) se_int) se_int) rfl) (se_op os_mul se_int (se_var (i := 6) (m := .fr) rfl))) rfl) sa_nil)) se_int)) (se_var (i := 7) (m := .fr) rfl) rfl) (ss_expr (sx_app (i := 5) (m := .fr) rfl (sx_of (se_op os_mod (se_cb cs_int (sa_cons (se_fr (se_op os_add (se_op os_ix (se_var (i := 2) (m := (.own .fr)) rfl) (se_var (i := 7) (m := .fr) rfl)) (se_op os_div (se_op os_ix (se_var (i := 4) (m := (.own .fr)) rfl) (se_var (i := 7) (m := .fr) rfl)) se_int)) rfl) sa_nil)) se_int)) rfl)))))) (ss_ret (Γ' := [.sc, .fr, (.own .fr), .fr, (.own .fr), (.own .fr), .fr, .fr]) (sx_move (i := 5) (m := (.own .fr)) rfl)))))))
theorem ok__law_lowest (T : Tp P K mg) : FnOk P w K mg base CX0 1 T.a__law_lowest T.fd__law_lowest ["_law_p", "_law_q"] (spD K mg X0 [.fr, .fr] .fr m__law_lowest) := by
  refine fnD (N := N__law_lowest) (pm := [.fr, .fr]) (Γl := [.fr, .fr, .fr]) T.F__law_lowest sc__law_lowest rfl rfl rfl fun cdv A outer s H E hr => ⟨_, (pss_cons (ps_if (pt_cmpR op_lt (pv 1) pe_int (nomark _)) (pss_one (ps_par (i := 0) (j := 1) (by rfl) sc__law_lowest.nd rfl rfl (by decide) rfl rfl (pa_cons (pe_un un_neg (pv 0)) (pa_cons (pe_un un_neg (pv 1)) pa_nil)) (by rfl))) pss_nil) (pss_cons (ps_par (i := 2) (j := 3) (by rfl) sc__law_lowest.nd rfl rfl (by decide) rfl rfl (pa_cons (pe_callB call_abs (by rfl) T.z_abs (by decide +kernel) (pa_cons (pv 0) pa_nil)) (pa_cons (pv 1) pa_nil)) (by rfl)) (pss_cons (ps_for PassesOwn.never rfl (pi_range1 rfl T.z_range (pa_cons pe_int pa_nil)) (pg_name (i := 4) sc__law_lowest.nd rfl (by first | exact Or.inl rfl | exact Or.inr rfl)) (pss_cons (ps_if (pt_cmpR (kx_eq (K := K) rfl hr.units) (pv 3) pe_int (nomark _)) (pss_one ps_break) pss_nil) (pss_one (ps_par (i := 2) (j := 3) (by rfl) sc__law_lowest.nd rfl rfl (by decide) rfl rfl (pa_cons (pv 3) (pa_cons (pe_op op_modX (pe_callTy call_int1 (by rfl) T.z_int (by decide +kernel) (pa_cons (pv 2) pa_nil)) (pv 3)) pa_nil)) (by rfl))))) (pss_one (ps_ret (pe_tup (pa_cons (pe_op op_divX (pv 0) (pv 2)) (pa_cons (pe_op op_divX (pv 1) (pv 2)) pa_nil)))))))), fun Bp F0 => ⟨[.fr, .fr, .fr, .fr, .fr], ?_⟩⟩
  unfold b__law_lowest
  exact (ss_seq (ss_if (st_tt (se_op os_lt (se_var (i := 1) (m := .fr) rfl) se_int)) (ss_par (i := 0) (j := 1) (sa_cons (se_neg (se_var (i := 0) (m := .fr) rfl)) (sa_cons (se_neg (se_var (i := 1) (m := .fr) rfl)) sa_nil)) (by decide) (by decide) nio2) ss_nil) (ss_seq (ss_par (i := 2) (j := 3) (sa_cons (se_cb cs_abs (sa_cons (se_var (i := 0) (m := .fr) rfl) sa_nil)) (sa_cons (se_var (i := 1) (m := .fr) rfl) sa_nil)) (by decide) (by decide) nio2) (ss_seq (ss_for (si_rng1 (sa_cons se_int sa_nil)) (sn_name (i := 4) (m := .fr) rfl nio) nx_name (ss_seq (ss_if (st_tt (se_op os_eq (se_var (i := 3) (m := .fr) rfl) se_int)) (ss_brk (Γ' := [.fr, .fr, .fr, .fr, .fr])) ss_nil) (ss_par (i := 2) (j := 3) (sa_cons (se_var (i := 3) (m := .fr) rfl) (sa_cons (se_op os_mod (se_cb cs_int (sa_cons (se_var (i := 2) (m := .fr) rfl) sa_nil)) (se_var (i := 3) (m := .fr) rfl)) sa_nil)) (by decide) (by decide) nio2))) (ss_ret (Γ' := [.fr, .fr, .fr, .fr, .fr]) (sx_of (se_tup (sa_cons (se_op os_div (se_var (i := 0) (m := .fr) rfl) (se_var (i := 2) (m := .fr) rfl)) (sa_cons (se_op os_div (se_var (i := 1) (m := .fr) rfl) (se_var (i := 2) (m := .fr) rfl)) sa_nil)) (by decide)))))))
theorem ok__law_plus (T : Tp P K mg) : FnOk P w K mg base CX0 2 T.a__law_plus T.fd__law_plus ["_law_first", "_law_second"] (spD K mg X0 [.fr, .fr] .fr m__law_plus) := by
  have G__law_lowest := ok__law_lowest (P := P) (w := w) (base := base) T
  refine fnD (N := N__law_plus) (pm := [.fr, .fr]) (Γl := []) T.F__law_plus sc__law_plus rfl rfl rfl fun cdv A outer s H E hr => ⟨_, (pss_one (ps_ret (pe_call G__law_lowest (hr.mono (by decide)) (by rfl) T.g__law_lowest T.F__law_lowest.kp T.b__law_lowest .nil pass0 (pa_cons (pe_op op_addX (pe_op op_mulX (pe_ix (kx_ix (K := K) rfl) (pv 0) pe_int (fun _ _ => rfl)) (pe_ix (kx_ix (K := K) rfl) (pv 1) pe_int (fun _ _ => rfl))) (pe_op op_mulX (pe_ix (kx_ix (K := K) rfl) (pv 1) pe_int (fun _ _ => rfl)) (pe_ix (kx_ix (K := K) rfl) (pv 0) pe_int (fun _ _ => rfl)))) (pa_cons (pe_op op_mulX (pe_ix (kx_ix (K := K) rfl) (pv 0) pe_int (fun _ _ => rfl)) (pe_ix (kx_ix (K := K) rfl) (pv 1) pe_int (fun _ _ => rfl))) pa_nil))))), fun Bp F0 => ⟨[.fr, .fr], ?_⟩⟩
  unfold b__law_plus
  exact (ss_ret (Γ' := [.fr, .fr]) (sx_of (se_call (sa_cons (se_fr (se_op os_add (se_op os_mul (se_op os_ix (se_var (i := 0) (m := .fr) rfl) se_int) (se_op os_ix (se_var (i := 1) (m := .fr) rfl) se_int)) (se_op os_mul (se_op os_ix (se_var (i := 1) (m := .fr) rfl) se_int) (se_op os_ix (se_var (i := 0) (m := .fr) rfl) se_int))) rfl) (sa_cons (se_op os_mul (se_op os_ix (se_var (i := 0) (m := .fr) rfl) se_int) (se_op os_ix (se_var (i := 1) (m := .fr) rfl) se_int)) sa_nil)) hx0)))
theorem ok__law_added (T : Tp P K mg) : FnOk P w K mg base CX0 3 T.a__law_added T.fd__law_added ["_law_rows"] (spD K mg X0 [.fr] .fr m__law_added) := by
  have G__law_plus := ok__law_plus (P := P) (w := w) (base := base) T
  refine fnD (N := N__law_added) (pm := [.fr]) (Γl := [.fr, .fr]) T.F__law_added sc__law_added rfl rfl rfl fun cdv A outer s H E hr => ⟨_, (pss_cons (ps_set (i := 1) sc__law_added.nd rfl (by first | exact Or.inl rfl | exact Or.inr rfl) (pe_tup (pa_cons pe_int (pa_cons pe_int pa_nil)))) (pss_cons (ps_for PassesOwn.never rfl (kx_seq (K := K) rfl (pv 0)) (pg_name (i := 2) sc__law_added.nd rfl (by first | exact Or.inl rfl | exact Or.inr rfl)) (pss_one (ps_set (i := 1) sc__law_added.nd rfl (by first | exact Or.inl rfl | exact Or.inr rfl) (pe_call G__law_plus (hr.mono (by decide)) (by rfl) T.g__law_plus T.F__law_plus.kp T.b__law_plus .nil pass0 (pa_cons (pv 1) (pa_cons (pv 2) pa_nil)))))) (pss_one (ps_ret (pv 1))))), fun Bp F0 => ⟨[.fr, .fr, .fr], ?_⟩⟩
  unfold b__law_added
  exact (ss_seq (ss_set (i := 1) (m := .fr) (sx_of (se_tup (sa_cons se_int (sa_cons se_int sa_nil)) (by decide))) (by decide) nio) (ss_seq (ss_for (si_seqS (se_var (i := 0) (m := .fr) rfl)) (sn_name (i := 2) (m := .fr) rfl nio) nx_name (ss_set (i := 1) (m := .fr) (sx_of (se_call (sa_cons (se_var (i := 1) (m := .fr) rfl) (sa_cons (se_var (i := 2) (m := .fr) rfl) sa_nil)) hx0)) (by decide) nio)) (ss_ret (Γ' := [.fr, .fr, .fr]) (sx_of (se_var (i := 1) (m := .fr) rfl)))))
theorem ok__law_weighted (T : Tp P K mg) : FnOk P w K mg base CX0 4 T.a__law_weighted T.fd__law_weighted ["_law_numbers_here", "_law_values"] (spD K mg X0 [.fr, .fr] .fr m__law_weighted) := by
  have G__law_lowest := ok__law_lowest (P := P) (w := w) (base := base) T
  have G__law_added := ok__law_added (P := P) (w := w) (base := base) T
  refine fnD (N := N__law_weighted) (pm := [.fr, .fr]) (Γl := [.fr]) T.F__law_weighted sc__law_weighted rfl rfl rfl fun cdv A outer s H E hr => ⟨_, (pss_one (ps_ret (pe_call G__law_added (hr.mono (by decide)) (by rfl) T.g__law_added T.F__law_added.kp T.b__law_added .nil pass0 (pa_cons (pe_lc (own := [("_law_k", 2)]) (g := (L2.gName 2)) rfl sc__law_weighted.nd (pi_range1 rfl T.z_range (pa_cons (pe_callB (kx_len (K := K) rfl) (by rfl) T.z_len (by decide +kernel) (pa_cons (pv 0) pa_nil)) pa_nil)) (blkOk_by (own := [("_law_k", 2)]) (N := N__law_weighted) (sc := defScope s__law_weighted) (by decide +kernel)) (fun _ _ _ _ _ => (pg_name (i := 2) sc__law_weighted.nd rfl (by first | exact Or.inl rfl | exact Or.inr rfl))) (fun _ _ _ _ _ => pts_nil) (fun _ _ _ _ _ => (pe_call G__law_lowest (hr.mono (by decide)) (by rfl) T.g__law_lowest T.F__law_lowest.kp T.b__law_lowest .nil pass0 (pa_cons (pe_op op_mulX (pe_ix (kx_ix (K := K) rfl) (pv 0) (pv 2) (fun _ _ => rfl)) (pe_ix (kx_ix (K := K) rfl) (pe_ix (kx_ix (K := K) rfl) (pv 1) (pv 2) (fun _ _ => rfl)) pe_int (fun _ _ => rfl))) (pa_cons (pe_ix (kx_ix (K := K) rfl) (pe_ix (kx_ix (K := K) rfl) (pv 1) (pv 2) (fun _ _ => rfl)) pe_int (fun _ _ => rfl)) pa_nil))))) pa_nil)))), fun Bp F0 => ⟨[.fr, .fr, .fr], ?_⟩⟩
  unfold b__law_weighted
  exact (ss_ret (Γ' := [.fr, .fr, .fr]) (sx_of (se_call (sa_cons (se_fr (se_lc (vs := [2]) (si_rng1 (sa_cons (se_cb cs_len (sa_cons (se_var (i := 0) (m := .fr) rfl) sa_nil)) sa_nil)) (sn_name (i := 2) (m := .fr) rfl nio) (keeps_name (by decide)) nx_name (by decide) st_yes (se_call (sa_cons (se_op os_mul (se_op os_ix (se_var (i := 0) (m := .fr) rfl) (se_var (i := 2) (m := .fr) rfl)) (se_op os_ix (se_op os_ix (se_var (i := 1) (m := .fr) rfl) (se_var (i := 2) (m := .fr) rfl)) se_int)) (sa_cons (se_op os_ix (se_op os_ix (se_var (i := 1) (m := .fr) rfl) (se_var (i := 2) (m := .fr) rfl)) se_int) sa_nil)) hx0) rfl rfl nioL) rfl) sa_nil) hx0)))
theorem ok__law_program (T : Tp P K mg) : FnOk P w K mg base CX0 1 T.a__law_program T.fd__law_program ["_law_numbers_here", "_law_at", "_law_most", "_law_count"] (spD K mg X0 [.fr, .fr, .fr, .fr] .fr m__law_program) := by
  refine fnD (N := N__law_program) (pm := [.fr, .fr, .fr, .fr]) (Γl := [.fr, .fr, .fr, .fr, (.own .fr), .fr, .fr, .fr, .fr, .fr]) T.F__law_program sc__law_program rfl rfl rfl fun cdv A outer s H E hr => ⟨_, (pss_cons (ps_set (i := 4) sc__law_program.nd rfl (by first | exact Or.inl rfl | exact Or.inr rfl) (pe_op op_addX pe_int (pe_op op_modX (pe_callTy call_int1 (by rfl) T.z_int (by decide +kernel) (pa_cons (pe_ix (kx_ix (K := K) rfl) (pv 0) (pv 1) (fun _ _ => rfl)) pa_nil)) (pv 2)))) (pss_cons (ps_set (i := 5) sc__law_program.nd rfl (by first | exact Or.inl rfl | exact Or.inr rfl) (pe_op op_addX pe_int (pe_op op_modX (pe_callTy call_int1 (by rfl) T.z_int (by decide +kernel) (pa_cons (pe_ix (kx_ix (K := K) rfl) (pv 0) (pe_op op_addX (pv 1) pe_int) (fun _ _ => rfl)) pa_nil)) pe_int))) (pss_cons (ps_setLc (i := 6) (own := [("_law_j", 7)]) (g := (L2.gName 7)) rfl sc__law_program.nd rfl rfl (sw_true rfl rfl rfl (by decide +kernel)) (pi_range1 rfl T.z_range (pa_cons (pv 4) pa_nil)) (blkOk_by (own := [("_law_j", 7)]) (N := N__law_program) (sc := defScope s__law_program) (by decide +kernel)) (fun _ _ _ _ _ => (pg_name (i := 7) sc__law_program.nd rfl (by first | exact Or.inl rfl | exact Or.inr rfl))) (fun _ _ _ _ _ => pts_nil) (fun _ _ _ _ _ => (pe_op op_sub (pe_op op_modX (pe_callTy call_int1 (by rfl) T.z_int (by decide +kernel) (pa_cons (pe_ix (kx_ix (K := K) rfl) (pv 0) (pe_op op_addX (pe_op op_addX (pv 1) pe_int) (pv 7)) (fun _ _ => rfl)) pa_nil)) (pe_op op_addX (pe_op op_mulX pe_int (pv 5)) pe_int)) (pe_ix (kx_ix (K := K) rfl) (pe_lst (pa_cons pe_int (pa_cons pe_int (pa_cons (pe_op op_addX (pv 5) pe_int) pa_nil)))) (pe_op op_modX (pe_op op_divX (pe_callTy call_int1 (by rfl) T.z_int (by decide +kernel) (pa_cons (pe_ix (kx_ix (K := K) rfl) (pv 0) (pe_op op_addX (pv 1) pe_int) (fun _ _ => rfl)) pa_nil)) pe_int) pe_int) (fun _ _ => rfl))))) (pss_cons (ps_set (i := 8) sc__law_program.nd rfl (by first | exact Or.inl rfl | exact Or.inr rfl) (pe_lst pa_nil)) (pss_cons (ps_for PassesOwn.never rfl (pi_range1 rfl T.z_range (pa_cons (pe_op op_modX (pe_callTy call_int1 (by rfl) T.z_int (by decide +kernel) (pa_cons (pe_ix (kx_ix (K := K) rfl) (pv 0) (pe_op op_addX (pv 1) pe_int) (fun _ _ => rfl)) pa_nil)) (pe_op op_addX (pv 3) pe_int)) pa_nil)) (pg_name (i := 9) sc__law_program.nd rfl (by first | exact Or.inl rfl | exact Or.inr rfl)) (pss_cons (ps_set (i := 10) sc__law_program.nd rfl (by first | exact Or.inl rfl | exact Or.inr rfl) (pe_callTy call_int1 (by rfl) T.z_int (by decide +kernel) (pa_cons (pe_ix (kx_ix (K := K) rfl) (pv 0) (pe_op op_addX (pe_op op_addX (pv 1) pe_int) (pv 9)) (fun _ _ => rfl)) pa_nil))) (pss_cons (ps_set (i := 11) sc__law_program.nd rfl (by first | exact Or.inl rfl | exact Or.inr rfl) (pe_lc (own := [("_law_j", 7)]) (g := (L2.gName 7)) rfl sc__law_program.nd (pi_range1 rfl T.z_range (pa_cons (pv 4) pa_nil)) (blkOk_by (own := [("_law_j", 7)]) (N := N__law_program) (sc := defScope s__law_program) (by decide +kernel)) (fun _ _ _ _ _ => (pg_name (i := 7) sc__law_program.nd rfl (by first | exact Or.inl rfl | exact Or.inr rfl))) (fun _ _ _ _ _ => pts_nil) (fun _ _ _ _ _ => (pe_op op_sub (pe_op op_modX (pe_callTy call_int1 (by rfl) T.z_int (by decide +kernel) (pa_cons (pe_op op_addX (pe_ix (kx_ix (K := K) rfl) (pv 0) (pe_op op_addX (pe_op op_addX (pv 1) pe_int) (pe_op op_modX (pe_callTy call_int1 (by rfl) T.z_int (by decide +kernel) (pa_cons (pe_op op_addX (pe_op op_mulX (pv 9) (pv 4)) (pv 7)) pa_nil)) pe_int)) (fun _ _ => rfl)) (pe_op op_mulX pe_int (pv 9))) pa_nil)) (pe_op op_addX (pv 5) pe_int)) (pe_op op_mulX (pe_op op_modX (pv 10) pe_int) (pe_op op_addX pe_int (pe_op op_divX (pv 5) pe_int))))))) (pss_cons (ps_set (i := 12) sc__law_program.nd rfl (by first | exact Or.inl rfl | exact Or.inr rfl) (pe_ix (kx_ix (K := K) rfl) (pe_lst (pa_cons pe_str (pa_cons pe_str (pa_cons pe_str (pa_cons pe_str (pa_cons pe_str (pa_cons pe_str pa_nil))))))) (pe_op op_modX (pe_op op_divX (pv 10) pe_int) pe_int) (fun _ _ => rfl))) (pss_cons (ps_set (i := 13) sc__law_program.nd rfl (by first | exact Or.inl rfl | exact Or.inr rfl) (pe_callB (kx_sum (K := K) rfl rfl) (by rfl) T.z_sum (by decide +kernel) (pa_cons (pe_lc (own := [("_law_j", 7)]) (g := (L2.gName 7)) rfl sc__law_program.nd (pi_range1 rfl T.z_range (pa_cons (pv 4) pa_nil)) (blkOk_by (own := [("_law_j", 7)]) (N := N__law_program) (sc := defScope s__law_program) (by decide +kernel)) (fun _ _ _ _ _ => (pg_name (i := 7) sc__law_program.nd rfl (by first | exact Or.inl rfl | exact Or.inr rfl))) (fun _ _ _ _ _ => pts_nil) (fun _ _ _ _ _ => (pe_op op_mulX (pe_ix (kx_ix (K := K) rfl) (pv 11) (pv 7) (fun _ _ => rfl)) (pe_op op_modX (pe_op op_divX (pe_callTy call_int1 (by rfl) T.z_int (by decide +kernel) (pa_cons (pe_ix (kx_ix (K := K) rfl) (pv 0) (pe_op op_addX (pe_op op_addX (pv 1) pe_int) (pv 7)) (fun _ _ => rfl)) pa_nil)) pe_int) pe_int)))) pa_nil))) (pss_one (ps_expr (pe_bm PySem.F.plainAttrs_list PySem.F.slot_list_append PySem.F.type_list_append mt_append (pv 8) (pa_cons (pe_tup (pa_cons (pv 11) (pa_cons (pv 12) (pa_cons (pe_op op_addX (pv 13) (pe_ix (kx_ix (K := K) rfl) (pe_lst (pa_cons pe_int (pa_cons pe_int (pa_cons pe_int (pa_cons (pe_un un_neg pe_int) (pa_cons pe_int pa_nil)))))) (pe_op op_modX (pe_op op_divX (pv 10) pe_int) pe_int) (fun _ _ => rfl))) pa_nil)))) pa_nil))))))))) (pss_one (ps_ret (pe_tup (pa_cons (pv 4) (pa_cons (pv 6) (pa_cons (pv 8) pa_nil))))))))))), fun Bp F0 => ⟨[.fr, .fr, .fr, .fr, .fr, .fr, .fr, .fr, (.own .fr), .fr, .fr, .fr, .fr, .fr], ?_⟩⟩
  unfold b__law_program
  exact (ss_seq (ss_set (i := 4) (m := .fr) (sx_of (se_fr (se_op os_add se_int (se_op os_mod (se_cb cs_int (sa_cons (se_op os_ix (se_var (i := 0) (m := .fr) rfl) (se_var (i := 1) (m := .fr) rfl)) sa_nil)) (se_var (i := 2) (m := .fr) rfl))) rfl)) (by decide) nio) (ss_seq (ss_set (i := 5) (m := .fr) (sx_of (se_fr (se_op os_add se_int (se_op os_mod (se_cb cs_int (sa_cons (se_op os_ix (se_var (i := 0) (m := .fr) rfl) (se_fr (se_op os_add (se_var (i := 1) (m := .fr) rfl) se_int) rfl)) sa_nil)) se_int)) rfl)) (by decide) nio) (ss_seq (ss_set (i := 6) (sx_of (se_fr (se_lc (vs := [7]) (si_rng1 (sa_cons (se_var (i := 4) (m := .fr) rfl) sa_nil)) (sn_name (i := 7) (m := .fr) rfl nio) (keeps_name (by decide)) nx_name (by decide) st_yes (se_op os_sub (se_op os_mod (se_cb cs_int (sa_cons (se_op os_ix (se_var (i := 0) (m := .fr) rfl) (se_fr (se_op os_add (se_fr (se_op os_add (se_var (i := 1) (m := .fr) rfl) se_int) rfl) (se_var (i := 7) (m := .fr) rfl)) rfl)) sa_nil)) (se_fr (se_op os_add (se_op os_mul se_int (se_var (i := 5) (m := .fr) rfl)) se_int) rfl)) (se_op os_ix (se_fr (se_lst (m := .fr) (sa_cons se_int (sa_cons se_int (sa_cons (se_fr (se_op os_add (se_var (i := 5) (m := .fr) rfl) se_int) rfl) sa_nil))) (by decide)) rfl) (se_op os_mod (se_op os_div (se_cb cs_int (sa_cons (se_op os_ix (se_var (i := 0) (m := .fr) rfl) (se_fr (se_op os_add (se_var (i := 1) (m := .fr) rfl) se_int) rfl)) sa_nil)) se_int) se_int))) rfl rfl nioL) rfl)) (by decide) nio) (ss_seq (ss_set (i := 8) (m := (.own .fr)) (sx_of (se_lst (m := .fr) sa_nil (by decide))) (by decide) nio) (ss_seq (ss_for (si_rng1 (sa_cons (se_op os_mod (se_cb cs_int (sa_cons (se_op os_ix (se_var (i := 0) (m := .fr) rfl) (se_fr (se_op os_add (se_var (i := 1) (m := .fr) rfl) se_int) rfl)) sa_nil)) (se_fr (se_op os_add (se_var (i := 3) (m := .fr) rfl) se_int) rfl)) sa_nil)) (sn_name (i := 9) (m := .fr) rfl nio) nx_name (ss_seq (ss_set (i := 10) (m := .fr) (sx_of (se_cb cs_int (sa_cons (se_op os_ix (se_var (i := 0) (m := .fr) rfl) (se_fr (se_op os_add (se_fr (se_op os_add (se_var (i := 1) (m := .fr) rfl) se_int) rfl) (se_var (i := 9) (m := .fr) rfl)) rfl)) sa_nil))) (by decide) nio) (ss_seq (ss_set (i := 11) (m := .fr) (sx_of (se_fr (se_lc (vs := [7]) (si_rng1 (sa_cons (se_var (i := 4) (m := .fr) rfl) sa_nil)) (sn_name (i := 7) (m := .fr) rfl nio) (keeps_name (by decide)) nx_name (by decide) st_yes (se_op os_sub (se_op os_mod (se_cb cs_int (sa_cons (se_fr (se_op os_add (se_op os_ix (se_var (i := 0) (m := .fr) rfl) (se_fr (se_op os_add (se_fr (se_op os_add (se_var (i := 1) (m := .fr) rfl) se_int) rfl) (se_op os_mod (se_cb cs_int (sa_cons (se_fr (se_op os_add (se_op os_mul (se_var (i := 9) (m := .fr) rfl) (se_var (i := 4) (m := .fr) rfl)) (se_var (i := 7) (m := .fr) rfl)) rfl) sa_nil)) se_int)) rfl)) (se_op os_mul se_int (se_var (i := 9) (m := .fr) rfl))) rfl) sa_nil)) (se_fr (se_op os_add (se_var (i := 5) (m := .fr) rfl) se_int) rfl)) (se_op os_mul (se_op os_mod (se_var (i := 10) (m := .fr) rfl) se_int) (se_fr (se_op os_add se_int (se_op os_div (se_var (i := 5) (m := .fr) rfl) se_int)) rfl))) rfl rfl nioL) rfl)) (by decide) nio) (ss_seq (ss_set (i := 12) (m := .fr) (sx_of (se_op os_ix (se_fr (se_lst (m := .fr) (sa_cons se_str (sa_cons se_str (sa_cons se_str (sa_cons se_str (sa_cons se_str (sa_cons se_str sa_nil)))))) (by decide)) rfl) (se_op os_mod (se_op os_div (se_var (i := 10) (m := .fr) rfl) se_int) se_int))) (by decide) nio) (ss_seq (ss_set (i := 13) (m := .fr) (sx_of (se_cb cs_sum (sa_cons (se_fr (se_lc (vs := [7]) (si_rng1 (sa_cons (se_var (i := 4) (m := .fr) rfl) sa_nil)) (sn_name (i := 7) (m := .fr) rfl nio) (keeps_name (by decide)) nx_name (by decide) st_yes (se_op os_mul (se_op os_ix (se_var (i := 11) (m := .fr) rfl) (se_var (i := 7) (m := .fr) rfl)) (se_op os_mod (se_op os_div (se_cb cs_int (sa_cons (se_op os_ix (se_var (i := 0) (m := .fr) rfl) (se_fr (se_op os_add (se_fr (se_op os_add (se_var (i := 1) (m := .fr) rfl) se_int) rfl) (se_var (i := 7) (m := .fr) rfl)) rfl)) sa_nil)) se_int) se_int)) rfl rfl nioL) rfl) sa_nil))) (by decide) nio) (ss_expr (sx_app (i := 8) (m := .fr) rfl (sx_of (se_tup (sa_cons (se_var (i := 11) (m := .fr) rfl) (sa_cons (se_var (i := 12) (m := .fr) rfl) (sa_cons (se_fr (se_op os_add (se_var (i := 13) (m := .fr) rfl) (se_op os_ix (se_fr (se_lst (m := .fr) (sa_cons se_int (sa_cons se_int (sa_cons se_int (sa_cons (se_neg se_int) (sa_cons se_int sa_nil))))) (by decide)) rfl) (se_op os_mod (se_op os_div (se_var (i := 10) (m := .fr) rfl) se_int) se_int))) rfl) sa_nil))) (by decide))) rfl))))))) (ss_ret (Γ' := [.fr, .fr, .fr, .fr, .fr, .fr, .fr, .fr, (.own .fr), .fr, .fr, .fr, .fr, .fr]) (sx_tup (sxa_cons (sx_of (se_var (i := 4) (m := .fr) rfl)) (sxa_cons (sx_of (se_var (i := 6) (m := .fr) rfl)) (sxa_cons (sx_fr (sx_move (i := 8) (m := (.own .fr)) rfl) rfl) sxa_nil))) (by decide))))))))
theorem ok__law_good (T : Tp P K mg) : FnOk P w K mg base CX0 1 T.a__law_good T.fd__law_good ["_law_rows", "_law_told"] (spD K mg X0 [.fr, .fr] .fr m__law_good) := by
  refine fnD (N := N__law_good) (pm := [.fr, .fr]) (Γl := [.fr, .fr, .fr, .fr, .fr]) T.F__law_good sc__law_good rfl rfl rfl fun cdv A outer s H E hr => ⟨_, (pss_cons (ps_for PassesOwn.never rfl (kx_seq (K := K) rfl (pv 0)) (pg_tup rfl (pgs_cons (pg_name (i := 2) sc__law_good.nd rfl (by first | exact Or.inl rfl | exact Or.inr rfl)) (pgs_cons (pg_name (i := 3) sc__law_good.nd rfl (by first | exact Or.inl rfl | exact Or.inr rfl)) (pgs_cons (pg_name (i := 4) sc__law_good.nd rfl (by first | exact Or.inl rfl | exact Or.inr rfl)) pgs_nil)))) (pss_cons (ps_set (i := 5) sc__law_good.nd rfl (by first | exact Or.inl rfl | exact Or.inr rfl) (pe_callB (kx_sum (K := K) rfl rfl) (by rfl) T.z_sum (by decide +kernel) (pa_cons (pe_lc (own := [("_law_j", 6)]) (g := (L2.gName 6)) rfl sc__law_good.nd (pi_range1 rfl T.z_range (pa_cons (pe_callB (kx_len (K := K) rfl) (by rfl) T.z_len (by decide +kernel) (pa_cons (pv 1) pa_nil)) pa_nil)) (blkOk_by (own := [("_law_j", 6)]) (N := N__law_good) (sc := defScope s__law_good) (by decide +kernel)) (fun _ _ _ _ _ => (pg_name (i := 6) sc__law_good.nd rfl (by first | exact Or.inl rfl | exact Or.inr rfl))) (fun _ _ _ _ _ => pts_nil) (fun _ _ _ _ _ => (pe_op op_mulX (pe_ix (kx_ix (K := K) rfl) (pv 2) (pv 6) (fun _ _ => rfl)) (pe_ix (kx_ix (K := K) rfl) (pv 1) (pv 6) (fun _ _ => rfl))))) pa_nil))) (pss_one (ps_if (PW.pt (pw_or (PW.pt (pw_and (pt_cmpR (kx_ne (K := K) rfl hr.units) (pv 3) pe_str (nomark _)) (pw_and1 (pt_cmpR op_lt (pv 5) (pv 4) (nomark _))))) (pw_or1 (PW.pt (pw_and (pt_cmpR (kx_ne (K := K) rfl hr.units) (pv 3) pe_str (nomark _)) (pw_and1 (pt_cmpR op_gt (pv 5) (pv 4) (nomark _)))))))) (pss_one (ps_ret pe_bl)) pss_nil)))) (pss_one (ps_ret pe_bl))), fun Bp F0 => ⟨[.fr, .fr, .fr, .fr, .fr, .fr, .fr], ?_⟩⟩
  unfold b__law_good
  exact (ss_seq (ss_for (si_seqS (se_var (i := 0) (m := .fr) rfl)) (sn_tup (m := .fr) (is := [2, 3, 4]) (Names.cons (Names.cons (Names.cons Names.nil))) (by decide) nioL) nx_tup (ss_seq (ss_set (i := 5) (m := .fr) (sx_of (se_cb cs_sum (sa_cons (se_fr (se_lc (vs := [6]) (si_rng1 (sa_cons (se_cb cs_len (sa_cons (se_var (i := 1) (m := .fr) rfl) sa_nil)) sa_nil)) (sn_name (i := 6) (m := .fr) rfl nio) (keeps_name (by decide)) nx_name (by decide) st_yes (se_op os_mul (se_op os_ix (se_var (i := 2) (m := .fr) rfl) (se_var (i := 6) (m := .fr) rfl)) (se_op os_ix (se_var (i := 1) (m := .fr) rfl) (se_var (i := 6) (m := .fr) rfl))) rfl rfl nioL) rfl) sa_nil))) (by decide) nio) (ss_if (st_or (st_and (st_tt (se_op os_ne (se_var (i := 3) (m := .fr) rfl) se_str)) (st_tt (se_op os_lt (se_var (i := 5) (m := .fr) rfl) (se_var (i := 4) (m := .fr) rfl)))) (st_and (st_tt (se_op os_ne (se_var (i := 3) (m := .fr) rfl) se_str)) (st_tt (se_op os_gt (se_var (i := 5) (m := .fr) rfl) (se_var (i := 4) (m := .fr) rfl))))) (ss_ret (Γ' := [.fr, .fr, .fr, .fr, .fr, .fr, .fr]) (sx_of se_bl)) ss_nil))) (ss_ret (Γ' := [.fr, .fr, .fr, .fr, .fr, .fr, .fr]) (sx_of se_bl)))
theorem ok__law_lists (T : Tp P K mg) : FnOk P w K mg base CX0 1 T.a__law_lists T.fd__law_lists ["_law_many"] (spD K mg X0 [.fr] (.own .fr) m__law_lists) := by
  refine fnD (N := N__law_lists) (pm := [.fr]) (Γl := [.fr, .fr]) T.F__law_lists sc__law_lists rfl rfl rfl fun cdv A outer s H E hr => ⟨_, (pss_one (ps_ret (pe_lc (own := [("_law_number", 2)]) (g := (L2.gName 2)) rfl sc__law_lists.nd (pi_range1 rfl T.z_range (pa_cons (pe_op op_shl pe_int (pv 0)) pa_nil)) (blkOk_by (own := [("_law_number", 2)]) (N := N__law_lists) (sc := defScope s__law_lists) (by decide +kernel)) (fun _ _ _ _ _ => (pg_name (i := 2) sc__law_lists.nd rfl (by first | exact Or.inl rfl | exact Or.inr rfl))) (fun _ _ _ _ _ => pts_nil) (fun _ _ _ _ _ => (pe_lc (own := [("_law_j", 1)]) (g := (L2.gName 1)) rfl sc__law_lists.nd (pi_range1 rfl T.z_range (pa_cons (pv 0) pa_nil)) (blkOk_by (own := [("_law_j", 1)]) (by kernel_rfl)) (fun _ _ _ _ _ => (pg_name (i := 1) sc__law_lists.nd rfl (by first | exact Or.inl rfl | exact Or.inr rfl))) (fun _ _ _ _ _ => pts_nil) (fun _ _ _ _ _ => (pe_op op_and (pe_op op_shr (pv 2) (pe_op op_sub (pe_op op_sub (pv 0) pe_int) (pv 1))) pe_int))))))), fun Bp F0 => ⟨[.fr, .fr, .fr], ?_⟩⟩
  unfold b__law_lists
  exact (ss_ret (Γ' := [.fr, .fr, .fr]) (sx_of (se_lc (vs := [2]) (si_rng1 (sa_cons (se_op os_shl se_int (se_var (i := 0) (m := .fr) rfl)) sa_nil)) (sn_name (i := 2) (m := .fr) rfl nio) (keeps_name (by decide)) nx_name (by decide) st_yes (se_fr (se_lc (vs := [1]) (si_rng1 (sa_cons (se_var (i := 0) (m := .fr) rfl) sa_nil)) (sn_name (i := 1) (m := .fr) rfl nio) (keeps_name (by decide)) nx_name (by decide) st_yes (se_op os_and (se_op os_shr (se_var (i := 2) (m := .fr) rfl) (se_op os_sub (se_op os_sub (se_var (i := 0) (m := .fr) rfl) se_int) (se_var (i := 1) (m := .fr) rfl))) se_int) rfl rfl nioL) rfl) rfl rfl nioL)))
theorem ok__law_worth (T : Tp P K mg) : FnOk P w K mg base CX0 1 T.a__law_worth T.fd__law_worth ["_law_prices", "_law_told"] (spD K mg X0 [.fr, .fr] .fr m__law_worth) := by
  refine fnD (N := N__law_worth) (pm := [.fr, .fr]) (Γl := [.fr]) T.F__law_worth sc__law_worth rfl rfl rfl fun cdv A outer s H E hr => ⟨_, (pss_one (ps_ret (pe_callB (kx_sum (K := K) rfl rfl) (by rfl) T.z_sum (by decide +kernel) (pa_cons (pe_lc (own := [("_law_j", 2)]) (g := (L2.gName 2)) rfl sc__law_worth.nd (pi_range1 rfl T.z_range (pa_cons (pe_callB (kx_len (K := K) rfl) (by rfl) T.z_len (by decide +kernel) (pa_cons (pv 1) pa_nil)) pa_nil)) (blkOk_by (own := [("_law_j", 2)]) (N := N__law_worth) (sc := defScope s__law_worth) (by decide +kernel)) (fun _ _ _ _ _ => (pg_name (i := 2) sc__law_worth.nd rfl (by first | exact Or.inl rfl | exact Or.inr rfl))) (fun _ _ _ _ _ => pts_nil) (fun _ _ _ _ _ => (pe_op op_mulX (pe_ix (kx_ix (K := K) rfl) (pv 0) (pv 2) (fun _ _ => rfl)) (pe_ix (kx_ix (K := K) rfl) (pv 1) (pv 2) (fun _ _ => rfl))))) pa_nil)))), fun Bp F0 => ⟨[.fr, .fr, .fr], ?_⟩⟩
  unfold b__law_worth
  exact (ss_ret (Γ' := [.fr, .fr, .fr]) (sx_of (se_cb cs_sum (sa_cons (se_fr (se_lc (vs := [2]) (si_rng1 (sa_cons (se_cb cs_len (sa_cons (se_var (i := 1) (m := .fr) rfl) sa_nil)) sa_nil)) (sn_name (i := 2) (m := .fr) rfl nio) (keeps_name (by decide)) nx_name (by decide) st_yes (se_op os_mul (se_op os_ix (se_var (i := 0) (m := .fr) rfl) (se_var (i := 2) (m := .fr) rfl)) (se_op os_ix (se_var (i := 1) (m := .fr) rfl) (se_var (i := 2) (m := .fr) rfl))) rfl rfl nioL) rfl) sa_nil))))
theorem ok__law_fit (T : Tp P K mg) : FnOk P w K mg base CX0 1 T.a__law_fit T.fd__law_fit ["_law_rows", "_law_weights"] (spD K mg X0 [.fr, .fr] .fr m__law_fit) := by
  refine fnD (N := N__law_fit) (pm := [.fr, .fr]) (Γl := [.fr]) T.F__law_fit sc__law_fit rfl rfl rfl fun cdv A outer s H E hr => ⟨_, (pss_cons (ps_if (pt_cmpR (kx_ne (K := K) rfl hr.units) (pe_callB (kx_len (K := K) rfl) (by rfl) T.z_len (by decide +kernel) (pa_cons (pv 1) pa_nil)) (pe_callB (kx_len (K := K) rfl) (by rfl) T.z_len (by decide +kernel) (pa_cons (pv 0) pa_nil)) (nomark _)) (pss_one (ps_ret pe_bl)) pss_nil) (pss_cons (ps_for PassesOwn.never rfl (pi_range1 rfl T.z_range (pa_cons (pe_callB (kx_len (K := K) rfl) (by rfl) T.z_len (by decide +kernel) (pa_cons (pv 0) pa_nil)) pa_nil)) (pg_name (i := 2) sc__law_fit.nd rfl (by first | exact Or.inl rfl | exact Or.inr rfl)) (pss_one (ps_if (PW.pt (pw_or (PW.pt (pw_and (pt_cmpR (kx_eq (K := K) rfl hr.units) (pe_ix (kx_ix (K := K) rfl) (pe_ix (kx_ix (K := K) rfl) (pv 0) (pv 2) (fun _ _ => rfl)) pe_int (fun _ _ => rfl)) pe_str (nomark _)) (pw_and1 (pt_cmpR op_lt (pe_ix (kx_ix (K := K) rfl) (pe_ix (kx_ix (K := K) rfl) (pv 1) (pv 2) (fun _ _ => rfl)) pe_int (fun _ _ => rfl)) pe_int (nomark _))))) (pw_or1 (PW.pt (pw_and (pt_cmpR (kx_eq (K := K) rfl hr.units) (pe_ix (kx_ix (K := K) rfl) (pe_ix (kx_ix (K := K) rfl) (pv 0) (pv 2) (fun _ _ => rfl)) pe_int (fun _ _ => rfl)) pe_str (nomark _)) (pw_and1 (pt_cmpR op_gt (pe_ix (kx_ix (K := K) rfl) (pe_ix (kx_ix (K := K) rfl) (pv 1) (pv 2) (fun _ _ => rfl)) pe_int (fun _ _ => rfl)) pe_int (nomark _)))))))) (pss_one (ps_ret pe_bl)) pss_nil))) (pss_one (ps_ret pe_bl)))), fun Bp F0 => ⟨[.fr, .fr, .fr], ?_⟩⟩
  unfold b__law_fit
  exact (ss_seq (ss_if (st_tt (se_op os_ne (se_cb cs_len (sa_cons (se_var (i := 1) (m := .fr) rfl) sa_nil)) (se_cb cs_len (sa_cons (se_var (i := 0) (m := .fr) rfl) sa_nil)))) (ss_ret (Γ' := [.fr, .fr, .fr]) (sx_of se_bl)) ss_nil) (ss_seq (ss_for (si_rng1 (sa_cons (se_cb cs_len (sa_cons (se_var (i := 0) (m := .fr) rfl) sa_nil)) sa_nil)) (sn_name (i := 2) (m := .fr) rfl nio) nx_name (ss_if (st_or (st_and (st_tt (se_op os_eq (se_op os_ix (se_op os_ix (se_var (i := 0) (m := .fr) rfl) (se_var (i := 2) (m := .fr) rfl)) se_int) se_str)) (st_tt (se_op os_lt (se_op os_ix (se_op os_ix (se_var (i := 1) (m := .fr) rfl) (se_var (i := 2) (m := .fr) rfl)) se_int) se_int))) (st_and (st_tt (se_op os_eq (se_op os_ix (se_op os_ix (se_var (i := 0) (m := .fr) rfl) (se_var (i := 2) (m := .fr) rfl)) se_int) se_str)) (st_tt (se_op os_gt (se_op os_ix (se_op os_ix (se_var (i := 1) (m := .fr) rfl) (se_var (i := 2) (m := .fr) rfl)) se_int) se_int)))) (ss_ret (Γ' := [.fr, .fr, .fr]) (sx_of se_bl)) ss_nil)) (ss_ret (Γ' := [.fr, .fr, .fr]) (sx_of se_bl))))
theorem ok__law_bound (T : Tp P K mg) : FnOk P w K mg base CX0 5 T.a__law_bound T.fd__law_bound ["_law_prices", "_law_rows", "_law_fixing", "_law_weights"] (spD K mg X0 [.fr, .fr, .fr, .fr] .fr m__law_bound) := by
  have G__law_weighted := ok__law_weighted (P := P) (w := w) (base := base) T
  have G__law_plus := ok__law_plus (P := P) (w := w) (base := base) T
  refine fnD (N := N__law_bound) (pm := [.fr, .fr, .fr, .fr]) (Γl := [.fr, .fr, .fr, .fr, .fr]) T.F__law_bound sc__law_bound rfl rfl rfl fun cdv A outer s H E hr => ⟨_, (pss_cons (ps_set (i := 4) sc__law_bound.nd rfl (by first | exact Or.inl rfl | exact Or.inr rfl) (pe_call G__law_weighted (hr.mono (by decide)) (by rfl) T.g__law_weighted T.F__law_weighted.kp T.b__law_weighted .nil pass0 (pa_cons (pe_lc (own := [("_law_row", 5)]) (g := (L2.gName 5)) rfl sc__law_bound.nd (kx_seq (K := K) rfl (pv 1)) (blkOk_by (own := [("_law_row", 5)]) (N := N__law_bound) (sc := defScope s__law_bound) (by decide +kernel)) (fun _ _ _ _ _ => (pg_name (i := 5) sc__law_bound.nd rfl (by first | exact Or.inl rfl | exact Or.inr rfl))) (fun _ _ _ _ _ => pts_nil) (fun _ _ _ _ _ => (pe_ix (kx_ix (K := K) rfl) (pv 5) pe_int (fun _ _ => rfl)))) (pa_cons (pv 3) pa_nil)))) (pss_cons (ps_for PassesOwn.never rfl (pi_range1 rfl T.z_range (pa_cons (pe_callB (kx_len (K := K) rfl) (by rfl) T.z_len (by decide +kernel) (pa_cons (pv 0) pa_nil)) pa_nil)) (pg_name (i := 6) sc__law_bound.nd rfl (by first | exact Or.inl rfl | exact Or.inr rfl)) (pss_cons (ps_set (i := 7) sc__law_bound.nd rfl (by first | exact Or.inl rfl | exact Or.inr rfl) (pe_call G__law_weighted (hr.mono (by decide)) (by rfl) T.g__law_weighted T.F__law_weighted.kp T.b__law_weighted .nil pass0 (pa_cons (pe_lc (own := [("_law_row", 5)]) (g := (L2.gName 5)) rfl sc__law_bound.nd (kx_seq (K := K) rfl (pv 1)) (blkOk_by (own := [("_law_row", 5)]) (N := N__law_bound) (sc := defScope s__law_bound) (by decide +kernel)) (fun _ _ _ _ _ => (pg_name (i := 5) sc__law_bound.nd rfl (by first | exact Or.inl rfl | exact Or.inr rfl))) (fun _ _ _ _ _ => pts_nil) (fun _ _ _ _ _ => (pe_ix (kx_ix (K := K) rfl) (pe_ix (kx_ix (K := K) rfl) (pv 5) pe_int (fun _ _ => rfl)) (pv 6) (fun _ _ => rfl)))) (pa_cons (pv 3) pa_nil)))) (pss_cons (ps_set (i := 8) sc__law_bound.nd rfl (by first | exact Or.inl rfl | exact Or.inr rfl) (pe_call G__law_plus (hr.mono (by decide)) (by rfl) T.g__law_plus T.F__law_plus.kp T.b__law_plus .nil pass0 (pa_cons (pe_tup (pa_cons (pe_ix (kx_ix (K := K) rfl) (pv 0) (pv 6) (fun _ _ => rfl)) (pa_cons pe_int pa_nil))) (pa_cons (pe_tup (pa_cons (pe_un un_neg (pe_ix (kx_ix (K := K) rfl) (pv 7) pe_int (fun _ _ => rfl))) (pa_cons (pe_ix (kx_ix (K := K) rfl) (pv 7) pe_int (fun _ _ => rfl)) pa_nil))) pa_nil)))) (pss_one (ps_if (PW.pt (pw_or (pt_cmpR (kx_eq (K := K) rfl hr.units) (pe_ix (kx_ix (K := K) rfl) (pv 2) (pv 6) (fun _ _ => rfl)) pe_int (nomark _)) (pw_or1 (PW.pt (pw_and (pt_cmpR op_isN (pe_ix (kx_ix (K := K) rfl) (pv 2) (pv 6) (fun _ _ => rfl)) pe_non (nomark _)) (pw_and1 (pt_cmpR op_lt (pe_ix (kx_ix (K := K) rfl) (pv 8) pe_int (fun _ _ => rfl)) pe_int (nomark _)))))))) (pss_one (ps_set (i := 4) sc__law_bound.nd rfl (by first | exact Or.inl rfl | exact Or.inr rfl) (pe_call G__law_plus (hr.mono (by decide)) (by rfl) T.g__law_plus T.F__law_plus.kp T.b__law_plus .nil pass0 (pa_cons (pv 4) (pa_cons (pv 8) pa_nil))))) pss_nil))))) (pss_one (ps_ret (pv 4))))), fun Bp F0 => ⟨[.fr, .fr, .fr, .fr, .fr, .fr, .fr, .fr, .fr], ?_⟩⟩
  unfold b__law_bound
  exact (ss_seq (ss_set (i := 4) (m := .fr) (sx_of (se_call (sa_cons (se_fr (se_lc (vs := [5]) (si_seqC (se_var (i := 1) (m := .fr) rfl)) (sn_name (i := 5) (m := .fr) rfl nio) (keeps_name (by decide)) nx_name (by decide) st_yes (se_op os_ix (se_var (i := 5) (m := .fr) rfl) se_int) rfl rfl nioL) rfl) (sa_cons (se_var (i := 3) (m := .fr) rfl) sa_nil)) hx0)) (by decide) nio) (ss_seq (ss_for (si_rng1 (sa_cons (se_cb cs_len (sa_cons (se_var (i := 0) (m := .fr) rfl) sa_nil)) sa_nil)) (sn_name (i := 6) (m := .fr) rfl nio) nx_name (ss_seq (ss_set (i := 7) (m := .fr) (sx_of (se_call (sa_cons (se_fr (se_lc (vs := [5]) (si_seqC (se_var (i := 1) (m := .fr) rfl)) (sn_name (i := 5) (m := .fr) rfl nio) (keeps_name (by decide)) nx_name (by decide) st_yes (se_op os_ix (se_op os_ix (se_var (i := 5) (m := .fr) rfl) se_int) (se_var (i := 6) (m := .fr) rfl)) rfl rfl nioL) rfl) (sa_cons (se_var (i := 3) (m := .fr) rfl) sa_nil)) hx0)) (by decide) nio) (ss_seq (ss_set (i := 8) (m := .fr) (sx_of (se_call (sa_cons (se_tup (sa_cons (se_op os_ix (se_var (i := 0) (m := .fr) rfl) (se_var (i := 6) (m := .fr) rfl)) (sa_cons se_int sa_nil)) (by decide)) (sa_cons (se_tup (sa_cons (se_neg (se_op os_ix (se_var (i := 7) (m := .fr) rfl) se_int)) (sa_cons (se_op os_ix (se_var (i := 7) (m := .fr) rfl) se_int) sa_nil)) (by decide)) sa_nil)) hx0)) (by decide) nio) (ss_if (st_or (st_tt (se_op os_eq (se_op os_ix (se_var (i := 2) (m := .fr) rfl) (se_var (i := 6) (m := .fr) rfl)) se_int)) (st_and (st_tt (se_op os_isN (se_op os_ix (se_var (i := 2) (m := .fr) rfl) (se_var (i := 6) (m := .fr) rfl)) se_non)) (st_tt (se_op os_lt (se_op os_ix (se_var (i := 8) (m := .fr) rfl) se_int) se_int)))) (ss_set (i := 4) (m := .fr) (sx_of (se_call (sa_cons (se_var (i := 4) (m := .fr) rfl) (sa_cons (se_var (i := 8) (m := .fr) rfl) sa_nil)) hx0)) (by decide) nio) ss_nil)))) (ss_ret (Γ' := [.fr, .fr, .fr, .fr, .fr, .fr, .fr, .fr, .fr]) (sx_of (se_var (i := 4) (m := .fr) rfl)))))
theorem ok__law_shows_none (T : Tp P K mg) : FnOk P w K mg base CX0 6 T.a__law_shows_none T.fd__law_shows_none ["_law_prices", "_law_rows", "_law_fixing", "_law_weights"] (spD K mg X0 [.fr, .fr, .fr, .fr] .fr m__law_shows_none) := by
  have G__law_fit := ok__law_fit (P := P) (w := w) (base := base) T
  have G__law_bound := ok__law_bound (P := P) (w := w) (base := base) T
  refine fnD (N := N__law_shows_none) (pm := [.fr, .fr, .fr, .fr]) (Γl := []) T.F__law_shows_none sc__law_shows_none rfl rfl rfl fun cdv A outer s H E hr => ⟨_, (pss_one (ps_ret (pe_and (pe_call G__law_fit (hr.mono (by decide)) (by rfl) T.g__law_fit T.F__law_fit.kp T.b__law_fit .nil pass0 (pa_cons (pv 1) (pa_cons (pv 3) pa_nil))) (pe_one (pe_cmpR op_gt (pe_ix (kx_ix (K := K) rfl) (pe_call G__law_bound (hr.mono (by decide)) (by rfl) T.g__law_bound T.F__law_bound.kp T.b__law_bound .nil pass0 (pa_cons (pe_op op_rep (pe_lst (pa_cons pe_int pa_nil)) (pe_callB (kx_len (K := K) rfl) (by rfl) T.z_len (by decide +kernel) (pa_cons (pv 0) pa_nil))) (pa_cons (pv 1) (pa_cons (pv 2) (pa_cons (pv 3) pa_nil))))) pe_int (fun _ _ => rfl)) pe_int (nomark _)))))), fun Bp F0 => ⟨[.fr, .fr, .fr, .fr], ?_⟩⟩
  unfold b__law_shows_none
  exact (ss_ret (Γ' := [.fr, .fr, .fr, .fr]) (sx_of (se_andV (se_call (sa_cons (se_var (i := 1) (m := .fr) rfl) (sa_cons (se_var (i := 3) (m := .fr) rfl) sa_nil)) hx0) (se_op os_gt (se_op os_ix (se_call (sa_cons (se_fr (se_op os_rep (se_lst (m := .fr) (sa_cons se_int sa_nil) (by decide)) (se_cb cs_len (sa_cons (se_var (i := 0) (m := .fr) rfl) sa_nil))) rfl) (sa_cons (se_var (i := 1) (m := .fr) rfl) (sa_cons (se_var (i := 2) (m := .fr) rfl) (sa_cons (se_var (i := 3) (m := .fr) rfl) sa_nil)))) hx0) se_int) se_int))))
theorem ok__law_closes (T : Tp P K mg) : FnOk P w K mg base CX0 6 T.a__law_closes T.fd__law_closes ["_law_prices", "_law_rows", "_law_fixing", "_law_weights", "_law_value", "_law_told"] (spD K mg X0 [.fr, .fr, .fr, .fr, .fr, .fr] .fr m__law_closes) := by
  have G__law_fit := ok__law_fit (P := P) (w := w) (base := base) T
  have G__law_bound := ok__law_bound (P := P) (w := w) (base := base) T
  refine fnD (N := N__law_closes) (pm := [.fr, .fr, .fr, .fr, .fr, .fr]) (Γl := [.fr, .fr, .fr, .fr]) T.F__law_closes sc__law_closes rfl rfl rfl fun cdv A outer s H E hr => ⟨_, (pss_cons (ps_if (pt_not (pt_val (pe_call G__law_fit (hr.mono (by decide)) (by rfl) T.g__law_fit T.F__law_fit.kp T.b__law_fit .nil pass0 (pa_cons (pv 1) (pa_cons (pv 3) pa_nil))))) (pss_one (ps_ret pe_bl)) pss_nil) (pss_cons (ps_set (i := 6) sc__law_closes.nd rfl (by first | exact Or.inl rfl | exact Or.inr rfl) (pe_call G__law_bound (hr.mono (by decide)) (by rfl) T.g__law_bound T.F__law_bound.kp T.b__law_bound .nil pass0 (pa_cons (pv 0) (pa_cons (pv 1) (pa_cons (pv 2) (pa_cons (pv 3) pa_nil)))))) (pss_cons (ps_set (i := 7) sc__law_closes.nd rfl (by first | exact Or.inl rfl | exact Or.inr rfl) (pe_un un_neg (pe_op op_divX (pe_un un_neg (pe_ix (kx_ix (K := K) rfl) (pv 6) pe_int (fun _ _ => rfl))) (pe_ix (kx_ix (K := K) rfl) (pv 6) pe_int (fun _ _ => rfl))))) (pss_cons (ps_setLc (i := 8) (own := [("_law_bit", 9)]) (g := (L2.gName 9)) rfl sc__law_closes.nd rfl rfl (sw_true rfl rfl rfl (by decide +kernel)) (kx_seq (K := K) rfl (pv 2)) (blkOk_by (own := [("_law_bit", 9)]) (N := N__law_closes) (sc := defScope s__law_closes) (by decide +kernel)) (fun _ _ _ _ _ => (pg_name (i := 9) sc__law_closes.nd rfl (by first | exact Or.inl rfl | exact Or.inr rfl))) (fun _ _ _ _ _ => pts_nil) (fun _ _ _ _ _ => (pe_callTy call_int1 (by rfl) T.z_int (by decide +kernel) (pa_cons (pe_cmpR (kx_eq (K := K) rfl hr.units) (pv 9) pe_int (nomark _)) pa_nil)))) (pss_one (ps_ret (pe_or (pe_cmpR op_gt (pv 7) (pv 4) (nomark _)) (pe_one (pe_and (pe_cmpR (kx_eq (K := K) rfl hr.units) (pv 7) (pv 4) (nomark _)) (pe_one (pe_cmpR (kx_geD (K := K) rfl hr.units65) (pv 8) (pv 5) (nomark _)))))))))))), fun Bp F0 => ⟨[.fr, .fr, .fr, .fr, .fr, .fr, .fr, .fr, .fr, .fr], ?_⟩⟩
  unfold b__law_closes
  exact (ss_seq (ss_if (st_not (st_b (se_call (sa_cons (se_var (i := 1) (m := .fr) rfl) (sa_cons (se_var (i := 3) (m := .fr) rfl) sa_nil)) hx0))) (ss_ret (Γ' := [.fr, .fr, .fr, .fr, .fr, .fr, .fr, .fr, .fr, .fr]) (sx_of se_bl)) ss_nil) (ss_seq (ss_set (i := 6) (m := .fr) (sx_of (se_call (sa_cons (se_var (i := 0) (m := .fr) rfl) (sa_cons (se_var (i := 1) (m := .fr) rfl) (sa_cons (se_var (i := 2) (m := .fr) rfl) (sa_cons (se_var (i := 3) (m := .fr) rfl) sa_nil)))) hx0)) (by decide) nio) (ss_seq (ss_set (i := 7) (m := .fr) (sx_of (se_neg (se_op os_div (se_neg (se_op os_ix (se_var (i := 6) (m := .fr) rfl) se_int)) (se_op os_ix (se_var (i := 6) (m := .fr) rfl) se_int)))) (by decide) nio) (ss_seq (ss_set (i := 8) (sx_of (se_fr (se_lc (vs := [9]) (si_seqC (se_var (i := 2) (m := .fr) rfl)) (sn_name (i := 9) (m := .fr) rfl nio) (keeps_name (by decide)) nx_name (by decide) st_yes (se_cb cs_int (sa_cons (se_op os_eq (se_var (i := 9) (m := .fr) rfl) se_int) sa_nil)) rfl rfl nioL) rfl)) (by decide) nio) (ss_ret (Γ' := [.fr, .fr, .fr, .fr, .fr, .fr, .fr, .fr, .fr, .fr]) (sx_of (se_orV (se_op os_gt (se_var (i := 7) (m := .fr) rfl) (se_var (i := 4) (m := .fr) rfl)) (se_andV (se_op os_eq (se_var (i := 7) (m := .fr) rfl) (se_var (i := 4) (m := .fr) rfl)) (se_op os_ordD (se_var (i := 8) (m := .fr) rfl) (se_var (i := 5) (m := .fr) rfl))))))))))
theorem ok__law_some (T : Tp P K mg) : FnOk P w K mg base CX0 2 T.a__law_some T.fd__law_some ["_law_numbers_here", "_law_at", "_law_k"] (spD K mg X0 [.fr, .fr, .fr] .fr m__law_some) := by
  have G__law_lowest := ok__law_lowest (P := P) (w := w) (base := base) T
  refine fnD (N := N__law_some) (pm := [.fr, .fr, .fr]) (Γl := []) T.F__law_some sc__law_some rfl rfl rfl fun cdv A outer s H E hr => ⟨_, (pss_one (ps_ret (pe_call G__law_lowest (hr.mono (by decide)) (by rfl) T.g__law_lowest T.F__law_lowest.kp T.b__law_lowest .nil pass0 (pa_cons (pe_op op_sub (pe_op op_modX (pe_callTy call_int1 (by rfl) T.z_int (by decide +kernel) (pa_cons (pe_ix (kx_ix (K := K) rfl) (pv 0) (pe_op op_addX (pv 1) (pe_op op_modX (pe_callTy call_int1 (by rfl) T.z_int (by decide +kernel) (pa_cons (pv 2) pa_nil)) pe_int)) (fun _ _ => rfl)) pa_nil)) pe_int) pe_int) (pa_cons (pe_op op_addX pe_int (pe_op op_modX (pe_op op_divX (pe_callTy call_int1 (by rfl) T.z_int (by decide +kernel) (pa_cons (pe_ix (kx_ix (K := K) rfl) (pv 0) (pe_op op_addX (pv 1) (pe_op op_modX (pe_callTy call_int1 (by rfl) T.z_int (by decide +kernel) (pa_cons (pe_op op_addX (pv 2) pe_int) pa_nil)) pe_int)) (fun _ _ => rfl)) pa_nil)) pe_int) pe_int)) pa_nil))))), fun Bp F0 => ⟨[.fr, .fr, .fr], ?_⟩⟩
  unfold b__law_some
  exact (ss_ret (Γ' := [.fr, .fr, .fr]) (sx_of (se_call (sa_cons (se_op os_sub (se_op os_mod (se_cb cs_int (sa_cons (se_op os_ix (se_var (i := 0) (m := .fr) rfl) (se_fr (se_op os_add (se_var (i := 1) (m := .fr) rfl) (se_op os_mod (se_cb cs_int (sa_cons (se_var (i := 2) (m := .fr) rfl) sa_nil)) se_int)) rfl)) sa_nil)) se_int) se_int) (sa_cons (se_fr (se_op os_add se_int (se_op os_mod (se_op os_div (se_cb cs_int (sa_cons (se_op os_ix (se_var (i := 0) (m := .fr) rfl) (se_fr (se_op os_add (se_var (i := 1) (m := .fr) rfl) (se_op os_mod (se_cb cs_int (sa_cons (se_fr (se_op os_add (se_var (i := 2) (m := .fr) rfl) se_int) rfl) sa_nil)) se_int)) rfl)) sa_nil)) se_int) se_int)) rfl) sa_nil)) hx0)))
theorem ok__law_refused (T : Tp P K mg) : FnOk P w K mg base CX0 11 T.a__law_refused T.fd__law_refused ["_law_way", "_law_program_here", "_law_fixing", "_law_weights"] (spD K mg X0 [.fr, .fr, .fr, .fr] .fr m__law_refused) := by
  have G_case_bound := ok_case_bound (P := P) (w := w) (base := base) T
  have G_shows_none := ok_shows_none (P := P) (w := w) (base := base) T
  have G_closes := ok_closes (P := P) (w := w) (base := base) T
  refine fnD (N := N__law_refused) (pm := [.fr, .fr, .fr, .fr]) (Γl := [.fr]) T.F__law_refused sc__law_refused rfl rfl rfl fun cdv A outer s H E hr => ⟨_, (pss_cons (kx_try (K := K) (n := 5) (i := 4) rfl rfl rfl sc__law_refused.nd rfl rfl rfl rfl rfl T.gc_root (fun E1 pn xe hpE pwW => (pss_one (ps_if (pt_cmpR (kx_eq (K := K) rfl hr.units) (pv 0) pe_int (nomark _)) (pss_one (ps_expr (pe_call G_case_bound (hr.mono (by decide)) (by rfl) T.g_case_bound T.F_case_bound.kp T.b_case_bound .nil hpE (pa_cons (pv 1) (pa_cons (pv 2) (pa_cons (pv 3) pa_nil)))))) (pss_one (ps_if (pt_cmpR (kx_eq (K := K) rfl hr.units) (pv 0) pe_int (nomark _)) (pss_one (ps_expr (pe_call G_shows_none (hr.mono (by decide)) (by rfl) T.g_shows_none T.F_shows_none.kp T.b_shows_none .nil hpE (pa_cons (pv 1) (pa_cons (pv 2) (pa_cons (pv 3) pa_nil)))))) (pss_one (ps_expr (pe_call G_closes (hr.mono (by decide)) (by rfl) T.g_closes T.F_closes.kp T.b_closes .nil hpE (pa_cons (pv 1) (pa_cons (pv 2) (pa_cons (pv 3) (pa_cons pe_int (pa_cons (pe_lst pa_nil) pa_nil))))))))))))) (fun a oe cls d pn hz hf => (pss_one (ps_ret (pe_tup (pa_cons (pe_lst (pa_cons (pe_callB (call_isX (D := T.xi.D) (fI := T.xi.fI) hz hf) (by rfl) T.z_isinstance (by decide +kernel) (pa_cons (pv 4) (pa_cons (pe_glob (v := .ref T.c_TooMany) rfl T.gc_TooMany rfl) pa_nil))) (pa_cons (pe_callB (call_isX (D := T.xi.D) (fI := T.xi.fI) hz hf) (by rfl) T.z_isinstance (by decide +kernel) (pa_cons (pv 4) (pa_cons (pe_glob (v := .ref T.c_WrongSize) rfl T.gc_WrongSize rfl) pa_nil))) (pa_cons (pe_callB (call_isX (D := T.xi.D) (fI := T.xi.fI) hz hf) (by rfl) T.z_isinstance (by decide +kernel) (pa_cons (pv 4) (pa_cons (pe_glob (v := .ref T.c_BadFixing) rfl T.gc_BadFixing rfl) pa_nil))) pa_nil)))) (pa_cons (pe_atX (D := T.xi.D) (fI := T.xi.fI) hz hf (pv 4)) pa_nil))))))) (pss_one (ps_ret pe_non))), fun Bp F0 => ⟨[.fr, .fr, .fr, .fr, .fr], ?_⟩⟩
  unfold b__law_refused
  exact (ss_seq (ss_try (ecs := ecsX) (n := 5) (i := 4) (Γh := [.fr, .fr, .fr, .fr, .fr]) (fun E => (ss_if (st_tt (se_op os_eq (se_var (i := 0) (m := .fr) rfl) se_int)) (ss_expr (sx_of (se_call (sa_cons (se_var (i := 1) (m := .fr) rfl) (sa_cons (se_var (i := 2) (m := .fr) rfl) (sa_cons (se_var (i := 3) (m := .fr) rfl) sa_nil))) hxI))) (ss_if (st_tt (se_op os_eq (se_var (i := 0) (m := .fr) rfl) se_int)) (ss_expr (sx_of (se_call (sa_cons (se_var (i := 1) (m := .fr) rfl) (sa_cons (se_var (i := 2) (m := .fr) rfl) (sa_cons (se_var (i := 3) (m := .fr) rfl) sa_nil))) hxI))) (ss_expr (sx_of (se_call (sa_cons (se_var (i := 1) (m := .fr) rfl) (sa_cons (se_var (i := 2) (m := .fr) rfl) (sa_cons (se_var (i := 3) (m := .fr) rfl) (sa_cons se_int (sa_cons (se_fr (se_lst (m := .fr) sa_nil (by decide)) rfl) sa_nil))))) hxI)))))) (fun c hc Ca hm => T.exm c hc Ca hm) (fun F0 c d v a Ca dd hc hm hv hK => ⟨_, (ss_ret (Γ' := [.fr, .fr, .fr, .fr, .fr]) (sx_of (se_tup (sa_cons (se_fr (se_lst (m := .fr) (sa_cons (se_isX (m := .fr) (i := 4) (Xa := T.c_TooMany) (T.ex c hc Ca hm) List.mem_cons_self hK (T.is c hc Ca hm "TooMany" (nth_mem 1 rfl) _ T.gc_TooMany)) (sa_cons (se_isX (m := .fr) (i := 4) (Xa := T.c_WrongSize) (T.ex c hc Ca hm) List.mem_cons_self hK (T.is c hc Ca hm "WrongSize" (nth_mem 4 rfl) _ T.gc_WrongSize)) (sa_cons (se_isX (m := .fr) (i := 4) (Xa := T.c_BadFixing) (T.ex c hc Ca hm) List.mem_cons_self hK (T.is c hc Ca hm "BadFixing" (nth_mem 5 rfl) _ T.gc_BadFixing)) sa_nil))) (by decide)) rfl) (sa_cons (se_at (m := .fr) (i := 4) (T.ex c hc Ca hm) List.mem_cons_self hK hv) sa_nil)) (by decide))))⟩) rfl rfl rfl) (ss_ret (Γ' := [.fr, .fr, .fr, .fr, .fr]) (sx_of se_non)))
theorem ok_Program___init__ (T : Tp P K mg) : FnOk P w K mg base CX0 1 T.a_Program___init__ T.fd_Program___init__ ["self", "prices", "rows"] (spN K mg X0 "Program" [.fr, .fr] m_Program___init__) := by
  refine fnN0 (N := N_Program___init__) (pm := [.fr, .fr]) (Γl := [.fr, .fr, .fr, .fr]) T.F_Program___init__ sc_Program___init__ rfl rfl fun cdv A outer s H E hr => ⟨_, (pss_cons (ps_if (pt_not (pt_chain op_le op_le pe_int (pe_callB (kx_len (K := K) rfl) (by rfl) T.z_len (by decide +kernel) (pa_cons (pv 1) pa_nil)) (pe_glob (v := (.int 40)) rfl T.k_MOST_VARIABLES_program.choose_spec ⟨_, rfl⟩))) (pss_one ps_never) pss_nil) (pss_cons (ps_if (pt_cmpR op_gt (pe_callB (kx_len (K := K) rfl) (by rfl) T.z_len (by decide +kernel) (pa_cons (pv 2) pa_nil)) (pe_glob (v := (.int 80)) rfl T.k_MOST_ROWS.choose_spec ⟨_, rfl⟩) (nomark _)) (pss_one ps_never) pss_nil) (pss_cons (ps_for PassesOwn.never rfl (pi_range1 rfl T.z_range (pa_cons (pe_callB (kx_len (K := K) rfl) (by rfl) T.z_len (by decide +kernel) (pa_cons (pv 2) pa_nil)) pa_nil)) (pg_name (i := 3) sc_Program___init__.nd rfl (by first | exact Or.inl rfl | exact Or.inr rfl)) (pss_cons (ps_if (pt_cmpR (kx_ne (K := K) rfl hr.units) (pe_callB (kx_len (K := K) rfl) (by rfl) T.z_len (by decide +kernel) (pa_cons (pe_ix (kx_ix (K := K) rfl) (pe_ix (kx_ix (K := K) rfl) (pv 2) (pv 3) (fun _ _ => rfl)) pe_int (fun _ _ => rfl)) pa_nil)) (pe_callB (kx_len (K := K) rfl) (by rfl) T.z_len (by decide +kernel) (pa_cons (pv 1) pa_nil)) (nomark _)) (pss_one ps_never) pss_nil) (pss_one (ps_if (pt_cmpR (kx_notIn (K := K) rfl hr.units65) (pe_ix (kx_ix (K := K) rfl) (pe_ix (kx_ix (K := K) rfl) (pv 2) (pv 3) (fun _ _ => rfl)) pe_int (fun _ _ => rfl)) (pe_glob (v := .ref T.a_RELATIONS) rfl T.g_RELATIONS rfl) (by rfl)) (pss_one ps_never) pss_nil)))) (pss_cons (ps_fld (pv 0) (pe_callTy (kx_list (K := K) rfl) (by rfl) T.z_list (by decide +kernel) (pa_cons (pv 1) pa_nil)) rfl) (pss_one (ps_fld (pv 0) (pe_lc (own := [("numbers", 4), ("relation", 5), ("bound", 6)]) (g := (L2.gTup _ 3 (L2.gCons (L2.gName 4) (L2.gCons (L2.gName 5) (L2.gCons (L2.gName 6) L2.gNil))))) rfl sc_Program___init__.nd (kx_seq (K := K) rfl (pv 2)) (blkOk_by (own := [("numbers", 4), ("relation", 5), ("bound", 6)]) (N := N_Program___init__) (sc := defScope s_Program___init__) (by decide +kernel)) (fun _ _ _ _ _ => (pg_tup rfl (pgs_cons (pg_name (i := 4) sc_Program___init__.nd rfl (by first | exact Or.inl rfl | exact Or.inr rfl)) (pgs_cons (pg_name (i := 5) sc_Program___init__.nd rfl (by first | exact Or.inl rfl | exact Or.inr rfl)) (pgs_cons (pg_name (i := 6) sc_Program___init__.nd rfl (by first | exact Or.inl rfl | exact Or.inr rfl)) pgs_nil))))) (fun _ _ _ _ _ => pts_nil) (fun _ _ _ _ _ => (pe_tup (pa_cons (pe_callTy (kx_list (K := K) rfl) (by rfl) T.z_list (by decide +kernel) (pa_cons (pv 4) pa_nil)) (pa_cons (pv 5) (pa_cons (pv 6) pa_nil)))))) rfl)))))), fun Bp F0 a => ⟨[(.ob .fr), .fr, .fr, .fr, .fr, .fr, .fr], ?_⟩⟩
  unfold b_Program___init__
  exact (ss_seq (ss_if (st_not (st_tt (se_chain os_le os_le se_int (se_cb cs_len (sa_cons (se_var (i := 1) (m := .fr) rfl) sa_nil)) (se_const (m := .fr) rfl rfl)))) (ss_never (Γ' := [(.ob .fr), .fr, .fr, .fr, .fr, .fr, .fr])) ss_nil) (ss_seq (ss_if (st_tt (se_op os_gt (se_cb cs_len (sa_cons (se_var (i := 2) (m := .fr) rfl) sa_nil)) (se_const (m := .fr) rfl rfl))) (ss_never (Γ' := [(.ob .fr), .fr, .fr, .fr, .fr, .fr, .fr])) ss_nil) (ss_seq (ss_for (si_rng1 (sa_cons (se_cb cs_len (sa_cons (se_var (i := 2) (m := .fr) rfl) sa_nil)) sa_nil)) (sn_name (i := 3) (m := .fr) rfl (nio1 (by decide))) nx_name (ss_seq (ss_if (st_tt (se_op os_ne (se_cb cs_len (sa_cons (se_op os_ix (se_op os_ix (se_var (i := 2) (m := .fr) rfl) (se_var (i := 3) (m := .fr) rfl)) se_int) sa_nil)) (se_cb cs_len (sa_cons (se_var (i := 1) (m := .fr) rfl) sa_nil)))) (ss_never (Γ' := [(.ob .fr), .fr, .fr, .fr, .fr, .fr, .fr])) ss_nil) (ss_if (st_tt (se_op os_notIn (se_op os_ix (se_op os_ix (se_var (i := 2) (m := .fr) rfl) (se_var (i := 3) (m := .fr) rfl)) se_int) (se_glob (T.d_RELATIONS)))) (ss_never (Γ' := [(.ob .fr), .fr, .fr, .fr, .fr, .fr, .fr])) ss_nil))) (ss_seq (ss_setF (i := 0) (c := "Program") (f := "_prices") rfl (sx_of (se_fr (se_cb cs_list (sa_cons (se_var (i := 1) (m := .fr) rfl) sa_nil)) rfl)) T.g_Program T.cl_Program T.na_Program__prices) (ss_setF (i := 0) (c := "Program") (f := "_rows") rfl (sx_of (se_fr (se_lc (vs := [4, 5, 6]) (si_seqC (se_var (i := 2) (m := .fr) rfl)) (sn_tup (m := .fr) (is := [4, 5, 6]) (Names.cons (Names.cons (Names.cons Names.nil))) (by decide) (nioL1 (by decide))) (keeps_tup (by decide)) nx_tup (by decide) st_yes (se_tup (sa_cons (se_fr (se_cb cs_list (sa_cons (se_var (i := 4) (m := .fr) rfl) sa_nil)) rfl) (sa_cons (se_var (i := 5) (m := .fr) rfl) (sa_cons (se_var (i := 6) (m := .fr) rfl) sa_nil))) (by decide)) rfl rfl (nioL1 (by decide))) rfl)) T.g_Program T.cl_Program T.na_Program__rows)))))
theorem ok__law_refusals (T : Tp P K mg) : FnOk P w K mg base CX0 12 T.a__law_refusals T.fd__law_refusals ["_law_numbers_here", "_law_program_here", "_law_fixing", "_law_weights"] (spD K mg X0 [.fr, .fr, .fr, .fr] .fr m__law_refusals) := by
  have G_Program___init__ := ok_Program___init__ (P := P) (w := w) (base := base) T
  have G__law_refused := ok__law_refused (P := P) (w := w) (base := base) T
  have G_Program_count := ok_Program_count (P := P) (w := w) (base := base) T
  refine fnD (N := N__law_refusals) (pm := [.fr, .fr, .fr, .fr]) (Γl := [.fr, .fr, .fr, .fr]) T.F__law_refusals sc__law_refusals rfl rfl rfl fun cdv A outer s H E hr => ⟨_, (pss_cons (ps_set (i := 4) sc__law_refusals.nd rfl (by first | exact Or.inl rfl | exact Or.inr rfl) (pe_make T.mk_Program G_Program___init__ (hr.mono (by decide)) (by rfl) T.g_Program T.b_Program___init__ .nil pass0 (pa_cons (pe_op op_rep (pe_lst (pa_cons pe_int pa_nil)) (pe_op op_addX pe_int (pe_op op_modX (pe_callTy call_int1 (by rfl) T.z_int (by decide +kernel) (pa_cons (pe_ix (kx_ix (K := K) rfl) (pv 0) pe_int (fun _ _ => rfl)) pa_nil)) pe_int))) (pa_cons (pe_lst pa_nil) pa_nil)))) (pss_cons (ps_set (i := 5) sc__law_refusals.nd rfl (by first | exact Or.inl rfl | exact Or.inr rfl) (pe_op op_modX (pe_callTy call_int1 (by rfl) T.z_int (by decide +kernel) (pa_cons (pe_ix (kx_ix (K := K) rfl) (pv 0) pe_int (fun _ _ => rfl)) pa_nil)) (pe_callB (kx_len (K := K) rfl) (by rfl) T.z_len (by decide +kernel) (pa_cons (pv 2) pa_nil)))) (pss_cons (ps_set (i := 6) sc__law_refusals.nd rfl (by first | exact Or.inl rfl | exact Or.inr rfl) (pe_op op_addX (pe_op op_addX (pe_slice (kx_sl (K := K) rfl) (pv 2) po_none (po_some (pv 5))) (pe_lst (pa_cons (pe_ix (kx_ix (K := K) rfl) (pe_lst (pa_cons pe_int (pa_cons (pe_un un_neg pe_int) (pa_cons pe_int pa_nil)))) (pe_op op_modX (pe_callTy call_int1 (by rfl) T.z_int (by decide +kernel) (pa_cons (pe_ix (kx_ix (K := K) rfl) (pv 0) pe_int (fun _ _ => rfl)) pa_nil)) pe_int) (fun _ _ => rfl)) pa_nil))) (pe_slice (kx_sl (K := K) rfl) (pv 2) (po_some (pe_op op_addX (pv 5) pe_int)) po_none))) (pss_cons (ps_for PassesOwn.never rfl (pi_range1 rfl T.z_range (pa_cons pe_int pa_nil)) (pg_name (i := 7) sc__law_refusals.nd rfl (by first | exact Or.inl rfl | exact Or.inr rfl)) (pss_cons (ps_if (pt_cmpR (kx_ne (K := K) rfl hr.units) (pe_call G__law_refused (hr.mono (by decide)) (by rfl) T.g__law_refused T.F__law_refused.kp T.b__law_refused .nil pass0 (pa_cons (pv 7) (pa_cons (pv 4) (pa_cons (pv 6) (pa_cons (pe_lst pa_nil) pa_nil))))) (pe_tup (pa_cons (pe_lst (pa_cons pe_bl (pa_cons pe_bl (pa_cons pe_bl pa_nil)))) (pa_cons (pe_meth0 (pv 4) T.cl_Program T.me_Program_count G_Program_count (hr.mono (by decide)) T.b_Program_count .nil pass0) pa_nil))) (nomark _)) (pss_one (ps_ret pe_bl)) pss_nil) (pss_cons (ps_if (pt_cmpR (kx_ne (K := K) rfl hr.units) (pe_call G__law_refused (hr.mono (by decide)) (by rfl) T.g__law_refused T.F__law_refused.kp T.b__law_refused .nil pass0 (pa_cons (pv 7) (pa_cons (pv 1) (pa_cons (pe_op op_addX (pv 6) (pe_lst (pa_cons pe_int pa_nil))) (pa_cons (pv 3) pa_nil))))) (pe_tup (pa_cons (pe_lst (pa_cons pe_bl (pa_cons pe_bl (pa_cons pe_bl pa_nil)))) (pa_cons pe_int pa_nil))) (nomark _)) (pss_one (ps_ret pe_bl)) pss_nil) (pss_one (ps_if (pt_cmpR (kx_ne (K := K) rfl hr.units) (pe_call G__law_refused (hr.mono (by decide)) (by rfl) T.g__law_refused T.F__law_refused.kp T.b__law_refused .nil pass0 (pa_cons (pv 7) (pa_cons (pv 1) (pa_cons (pv 6) (pa_cons (pe_op op_addX (pv 3) (pe_lst (pa_cons (pe_tup (pa_cons pe_int (pa_cons pe_int pa_nil))) pa_nil))) pa_nil))))) (pe_tup (pa_cons (pe_lst (pa_cons pe_bl (pa_cons pe_bl (pa_cons pe_bl pa_nil)))) (pa_cons (pv 5) pa_nil))) (nomark _)) (pss_one (ps_ret pe_bl)) pss_nil))))) (pss_one (ps_ret (pe_cmpR (kx_eq (K := K) rfl hr.units) (pe_call G__law_refused (hr.mono (by decide)) (by rfl) T.g__law_refused T.F__law_refused.kp T.b__law_refused .nil pass0 (pa_cons pe_int (pa_cons (pv 1) (pa_cons (pv 2) (pa_cons (pe_op op_addX (pv 3) (pe_lst (pa_cons (pe_tup (pa_cons pe_int (pa_cons pe_int pa_nil))) pa_nil))) pa_nil))))) (pe_tup (pa_cons (pe_lst (pa_cons pe_bl (pa_cons pe_bl (pa_cons pe_bl pa_nil)))) (pa_cons pe_int pa_nil))) (nomark _)))))))), fun Bp F0 => ⟨[.fr, .fr, .fr, .fr, .fr, .fr, .fr, .fr], ?_⟩⟩
  unfold b__law_refusals
  exact (ss_seq (ss_set (i := 4) (m := .fr) (sx_of (se_make (c := "Program") (sa_cons (se_fr (se_op os_rep (se_lst (m := .fr) (sa_cons se_int sa_nil) (by decide)) (se_fr (se_op os_add se_int (se_op os_mod (se_cb cs_int (sa_cons (se_op os_ix (se_var (i := 0) (m := .fr) rfl) se_int) sa_nil)) se_int)) rfl)) rfl) (sa_cons (se_fr (se_lst (m := .fr) sa_nil (by decide)) rfl) sa_nil)) T.g_Program hx0)) (by decide) nio) (ss_seq (ss_set (i := 5) (m := .fr) (sx_of (se_op os_mod (se_cb cs_int (sa_cons (se_op os_ix (se_var (i := 0) (m := .fr) rfl) se_int) sa_nil)) (se_cb cs_len (sa_cons (se_var (i := 2) (m := .fr) rfl) sa_nil)))) (by decide) nio) (ss_seq (ss_set (i := 6) (m := .fr) (sx_of (se_fr (se_op os_add (se_fr (se_op os_add (se_fr (se_sl (se_var (i := 2) (m := .fr) rfl) so_none (so_some (se_var (i := 5) (m := .fr) rfl))) rfl) (se_fr (se_lst (m := .fr) (sa_cons (se_op os_ix (se_fr (se_lst (m := .fr) (sa_cons se_int (sa_cons (se_neg se_int) (sa_cons se_int sa_nil))) (by decide)) rfl) (se_op os_mod (se_cb cs_int (sa_cons (se_op os_ix (se_var (i := 0) (m := .fr) rfl) se_int) sa_nil)) se_int)) sa_nil) (by decide)) rfl)) rfl) (se_fr (se_sl (se_var (i := 2) (m := .fr) rfl) (so_some (se_fr (se_op os_add (se_var (i := 5) (m := .fr) rfl) se_int) rfl)) so_none) rfl)) rfl)) (by decide) nio) (ss_seq (ss_for (si_rng1 (sa_cons se_int sa_nil)) (sn_name (i := 7) (m := .fr) rfl nio) nx_name (ss_seq (ss_if (st_tt (se_op os_ne (se_call (sa_cons (se_var (i := 7) (m := .fr) rfl) (sa_cons (se_var (i := 4) (m := .fr) rfl) (sa_cons (se_var (i := 6) (m := .fr) rfl) (sa_cons (se_fr (se_lst (m := .fr) sa_nil (by decide)) rfl) sa_nil)))) hx0) (se_tup (sa_cons (se_fr (se_lst (m := .fr) (sa_cons se_bl (sa_cons se_bl (sa_cons se_bl sa_nil))) (by decide)) rfl) (sa_cons (se_meth (mn := "count") (se_var (i := 4) (m := .fr) rfl) sa_nil T.g_Program hx0) sa_nil)) (by decide)))) (ss_ret (Γ' := [.fr, .fr, .fr, .fr, .fr, .fr, .fr, .fr]) (sx_of se_bl)) ss_nil) (ss_seq (ss_if (st_tt (se_op os_ne (se_call (sa_cons (se_var (i := 7) (m := .fr) rfl) (sa_cons (se_var (i := 1) (m := .fr) rfl) (sa_cons (se_fr (se_op os_add (se_var (i := 6) (m := .fr) rfl) (se_fr (se_lst (m := .fr) (sa_cons se_int sa_nil) (by decide)) rfl)) rfl) (sa_cons (se_var (i := 3) (m := .fr) rfl) sa_nil)))) hx0) (se_tup (sa_cons (se_fr (se_lst (m := .fr) (sa_cons se_bl (sa_cons se_bl (sa_cons se_bl sa_nil))) (by decide)) rfl) (sa_cons se_int sa_nil)) (by decide)))) (ss_ret (Γ' := [.fr, .fr, .fr, .fr, .fr, .fr, .fr, .fr]) (sx_of se_bl)) ss_nil) (ss_if (st_tt (se_op os_ne (se_call (sa_cons (se_var (i := 7) (m := .fr) rfl) (sa_cons (se_var (i := 1) (m := .fr) rfl) (sa_cons (se_var (i := 6) (m := .fr) rfl) (sa_cons (se_fr (se_op os_add (se_var (i := 3) (m := .fr) rfl) (se_fr (se_lst (m := .fr) (sa_cons (se_tup (sa_cons se_int (sa_cons se_int sa_nil)) (by decide)) sa_nil) (by decide)) rfl)) rfl) sa_nil)))) hx0) (se_tup (sa_cons (se_fr (se_lst (m := .fr) (sa_cons se_bl (sa_cons se_bl (sa_cons se_bl sa_nil))) (by decide)) rfl) (sa_cons (se_var (i := 5) (m := .fr) rfl) sa_nil)) (by decide)))) (ss_ret (Γ' := [.fr, .fr, .fr, .fr, .fr, .fr, .fr, .fr]) (sx_of se_bl)) ss_nil)))) (ss_ret (Γ' := [.fr, .fr, .fr, .fr, .fr, .fr, .fr, .fr]) (sx_of (se_op os_eq (se_call (sa_cons se_int (sa_cons (se_var (i := 1) (m := .fr) rfl) (sa_cons (se_var (i := 2) (m := .fr) rfl) (sa_cons (se_fr (se_op os_add (se_var (i := 3) (m := .fr) rfl) (se_fr (se_lst (m := .fr) (sa_cons (se_tup (sa_cons se_int (sa_cons se_int sa_nil)) (by decide)) sa_nil) (by decide)) rfl)) rfl) sa_nil)))) hx0) (se_tup (sa_cons (se_fr (se_lst (m := .fr) (sa_cons se_bl (sa_cons se_bl (sa_cons se_bl sa_nil))) (by decide)) rfl) (sa_cons se_int sa_nil)) (by decide)))))))))
theorem ok__law_true (T : Tp P K mg) : FnOk P w K mg base CX0 7 T.a__law_true T.fd__law_true ["_law_rows", "_law_prices", "_law_fixing", "_law_weights", "_law_value", "_law_told"] (spD K mg X0 [.fr, .fr, .fr, .fr, .fr, .fr] .fr m__law_true) := by
  have G__law_lists := ok__law_lists (P := P) (w := w) (base := base) T
  have G__law_good := ok__law_good (P := P) (w := w) (base := base) T
  have G__law_worth := ok__law_worth (P := P) (w := w) (base := base) T
  have G__law_fit := ok__law_fit (P := P) (w := w) (base := base) T
  have G__law_bound := ok__law_bound (P := P) (w := w) (base := base) T
  have G__law_shows_none := ok__law_shows_none (P := P) (w := w) (base := base) T
  have G__law_closes := ok__law_closes (P := P) (w := w) (base := base) T
  refine fnD (N := N__law_true) (pm := [.fr, .fr, .fr, .fr, .fr, .fr]) (Γl := [(.own .fr), .fr, .fr, .fr, .fr]) T.F__law_true sc__law_true rfl rfl rfl fun cdv A outer s H E hr => ⟨_, (pss_cons (ps_set (i := 6) sc__law_true.nd rfl (by first | exact Or.inl rfl | exact Or.inr rfl) (pe_lst pa_nil)) (pss_cons (ps_for PassesOwn.never rfl (kx_seq (K := K) rfl (pe_call G__law_lists (hr.mono (by decide)) (by rfl) T.g__law_lists T.F__law_lists.kp T.b__law_lists .nil pass0 (pa_cons (pe_callB (kx_len (K := K) rfl) (by rfl) T.z_len (by decide +kernel) (pa_cons (pv 1) pa_nil)) pa_nil))) (pg_name (i := 7) sc__law_true.nd rfl (by first | exact Or.inl rfl | exact Or.inr rfl)) (pss_one (ps_if (PW.pt (pw_and (pt_val (pe_call G__law_good (hr.mono (by decide)) (by rfl) T.g__law_good T.F__law_good.kp T.b__law_good .nil pass0 (pa_cons (pv 0) (pa_cons (pv 7) pa_nil)))) (pw_and1 (pt_val (pe_callB (kx_all (K := K) rfl rfl) (by rfl) T.z_all (by decide +kernel) (pa_cons (pe_lc (own := [("_law_j", 8)]) (g := (L2.gName 8)) rfl sc__law_true.nd (pi_range1 rfl T.z_range (pa_cons (pe_callB (kx_len (K := K) rfl) (by rfl) T.z_len (by decide +kernel) (pa_cons (pv 7) pa_nil)) pa_nil)) (blkOk_by (own := [("_law_j", 8)]) (N := N__law_true) (sc := defScope s__law_true) (by decide +kernel)) (fun _ _ _ _ _ => (pg_name (i := 8) sc__law_true.nd rfl (by first | exact Or.inl rfl | exact Or.inr rfl))) (fun _ _ _ _ _ => pts_nil) (fun _ _ _ _ _ => (pe_or (pe_cmpR op_isN (pe_ix (kx_ix (K := K) rfl) (pv 2) (pv 8) (fun _ _ => rfl)) pe_non (nomark _)) (pe_one (pe_cmpR (kx_eq (K := K) rfl hr.units) (pe_ix (kx_ix (K := K) rfl) (pv 2) (pv 8) (fun _ _ => rfl)) (pe_ix (kx_ix (K := K) rfl) (pv 7) (pv 8) (fun _ _ => rfl)) (nomark _)))))) pa_nil)))))) (pss_one (ps_expr (pe_bm PySem.F.plainAttrs_list PySem.F.slot_list_append PySem.F.type_list_append mt_append (pv 6) (pa_cons (pe_tup (pa_cons (pe_call G__law_worth (hr.mono (by decide)) (by rfl) T.g__law_worth T.F__law_worth.kp T.b__law_worth .nil pass0 (pa_cons (pv 1) (pa_cons (pv 7) pa_nil))) (pa_cons (pv 7) pa_nil))) pa_nil)))) pss_nil))) (pss_cons (ps_if (pt_not (pt_val (pe_call G__law_fit (hr.mono (by decide)) (by rfl) T.g__law_fit T.F__law_fit.kp T.b__law_fit .nil pass0 (pa_cons (pv 0) (pa_cons (pv 3) pa_nil))))) (pss_one (ps_ret pe_bl)) pss_nil) (pss_cons (ps_set (i := 9) sc__law_true.nd rfl (by first | exact Or.inl rfl | exact Or.inr rfl) (pe_call G__law_bound (hr.mono (by decide)) (by rfl) T.g__law_bound T.F__law_bound.kp T.b__law_bound .nil pass0 (pa_cons (pv 1) (pa_cons (pv 0) (pa_cons (pv 2) (pa_cons (pv 3) pa_nil)))))) (pss_cons (ps_if (pt_cmpR op_gt (pe_callB (kx_len (K := K) rfl) (by rfl) T.z_len (by decide +kernel) (pa_cons (pe_lc (own := [("_law_worth_here", 10), ("_law_one", 7)]) (g := (L2.gTup _ 2 (L2.gCons (L2.gName 10) (L2.gCons (L2.gName 7) L2.gNil)))) rfl sc__law_true.nd (kx_seq (K := K) rfl (pv 6)) (blkOk_by (own := [("_law_worth_here", 10), ("_law_one", 7)]) (N := N__law_true) (sc := defScope s__law_true) (by decide +kernel)) (fun _ _ _ _ _ => (pg_tup rfl (pgs_cons (pg_name (i := 10) sc__law_true.nd rfl (by first | exact Or.inl rfl | exact Or.inr rfl)) (pgs_cons (pg_name (i := 7) sc__law_true.nd rfl (by first | exact Or.inl rfl | exact Or.inr rfl)) pgs_nil)))) (fun _ _ _ _ _ => pts_one (pt_cmpR op_lt (pe_op op_mulX (pv 10) (pe_ix (kx_ix (K := K) rfl) (pv 9) pe_int (fun _ _ => rfl))) (pe_ix (kx_ix (K := K) rfl) (pv 9) pe_int (fun _ _ => rfl)) (nomark _))) (fun _ _ _ _ _ => pe_int)) pa_nil)) pe_int (nomark _)) (pss_one (ps_ret pe_bl)) pss_nil) (pss_cons (ps_if (PW.pt (pw_and (pt_val (pe_call G__law_shows_none (hr.mono (by decide)) (by rfl) T.g__law_shows_none T.F__law_shows_none.kp T.b__law_shows_none .nil pass0 (pa_cons (pv 1) (pa_cons (pv 0) (pa_cons (pv 2) (pa_cons (pv 3) pa_nil)))))) (pw_and1 (pt_cmpR op_gt (pe_callB (kx_len (K := K) rfl) (by rfl) T.z_len (by decide +kernel) (pa_cons (pv 6) pa_nil)) pe_int (nomark _))))) (pss_one (ps_ret pe_bl)) pss_nil) (pss_one (ps_ret (pe_or (pe_not (pe_call G__law_closes (hr.mono (by decide)) (by rfl) T.g__law_closes T.F__law_closes.kp T.b__law_closes .nil pass0 (pa_cons (pv 1) (pa_cons (pv 0) (pa_cons (pv 2) (pa_cons (pv 3) (pa_cons (pv 4) (pa_cons (pv 5) pa_nil)))))))) (pe_one (pe_cmpR (kx_eq (K := K) rfl hr.units) (pe_callB (kx_len (K := K) rfl) (by rfl) T.z_len (by decide +kernel) (pa_cons (pe_lc (own := [("_law_one", 7)]) (g := (L2.gName 7)) rfl sc__law_true.nd (kx_seq (K := K) rfl (pv 6)) (blkOk_by (own := [("_law_one", 7)]) (N := N__law_true) (sc := defScope s__law_true) (by decide +kernel)) (fun _ _ _ _ _ => (pg_name (i := 7) sc__law_true.nd rfl (by first | exact Or.inl rfl | exact Or.inr rfl))) (fun _ _ _ _ _ => pts_one (pt_cmpR (kx_ltD (K := K) rfl hr.units65) (pv 7) (pe_tup (pa_cons (pv 4) (pa_cons (pv 5) pa_nil))) (nomark _))) (fun _ _ _ _ _ => pe_int)) pa_nil)) pe_int (nomark _)))))))))))), fun Bp F0 => ⟨[.fr, .fr, .fr, .fr, .fr, .fr, (.own .fr), .fr, .fr, .fr, .fr], ?_⟩⟩
  unfold b__law_true
  exact (ss_seq (ss_set (i := 6) (m := (.own .fr)) (sx_of (se_lst (m := .fr) sa_nil (by decide))) (by decide) nio) (ss_seq (ss_for (si_seqS (se_fr (se_call (sa_cons (se_cb cs_len (sa_cons (se_var (i := 1) (m := .fr) rfl) sa_nil)) sa_nil) hx0) rfl)) (sn_name (i := 7) (m := .fr) rfl nio) nx_name (ss_if (st_and (st_b (se_call (sa_cons (se_var (i := 0) (m := .fr) rfl) (sa_cons (se_var (i := 7) (m := .fr) rfl) sa_nil)) hx0)) (st_b (se_cb cs_all (sa_cons (se_fr (se_lc (vs := [8]) (si_rng1 (sa_cons (se_cb cs_len (sa_cons (se_var (i := 7) (m := .fr) rfl) sa_nil)) sa_nil)) (sn_name (i := 8) (m := .fr) rfl nio) (keeps_name (by decide)) nx_name (by decide) st_yes (se_orV (se_op os_isN (se_op os_ix (se_var (i := 2) (m := .fr) rfl) (se_var (i := 8) (m := .fr) rfl)) se_non) (se_op os_eq (se_op os_ix (se_var (i := 2) (m := .fr) rfl) (se_var (i := 8) (m := .fr) rfl)) (se_op os_ix (se_var (i := 7) (m := .fr) rfl) (se_var (i := 8) (m := .fr) rfl)))) rfl rfl nioL) rfl) sa_nil)))) (ss_expr (sx_app (i := 6) (m := .fr) rfl (sx_of (se_tup (sa_cons (se_call (sa_cons (se_var (i := 1) (m := .fr) rfl) (sa_cons (se_var (i := 7) (m := .fr) rfl) sa_nil)) hx0) (sa_cons (se_var (i := 7) (m := .fr) rfl) sa_nil)) (by decide))) rfl)) ss_nil)) (ss_seq (ss_if (st_not (st_b (se_call (sa_cons (se_var (i := 0) (m := .fr) rfl) (sa_cons (se_var (i := 3) (m := .fr) rfl) sa_nil)) hx0))) (ss_ret (Γ' := [.fr, .fr, .fr, .fr, .fr, .fr, (.own .fr), .fr, .fr, .fr, .fr]) (sx_of se_bl)) ss_nil) (ss_seq (ss_set (i := 9) (m := .fr) (sx_of (se_call (sa_cons (se_var (i := 1) (m := .fr) rfl) (sa_cons (se_var (i := 0) (m := .fr) rfl) (sa_cons (se_var (i := 2) (m := .fr) rfl) (sa_cons (se_var (i := 3) (m := .fr) rfl) sa_nil)))) hx0)) (by decide) nio) (ss_seq (ss_if (st_tt (se_op os_gt (se_cb cs_len (sa_cons (se_fr (se_lc (vs := [10, 7]) (si_seqC (se_var (i := 6) (m := (.own .fr)) rfl)) (sn_tup (m := .fr) (is := [10, 7]) (Names.cons (Names.cons Names.nil)) (by decide) nioL) (keeps_tup (by decide)) nx_tup (by decide) (st_tt (se_op os_lt (se_op os_mul (se_var (i := 10) (m := .fr) rfl) (se_op os_ix (se_var (i := 9) (m := .fr) rfl) se_int)) (se_op os_ix (se_var (i := 9) (m := .fr) rfl) se_int))) se_int rfl rfl nioL) rfl) sa_nil)) se_int)) (ss_ret (Γ' := [.fr, .fr, .fr, .fr, .fr, .fr, (.own .fr), .fr, .fr, .fr, .fr]) (sx_of se_bl)) ss_nil) (ss_seq (ss_if (st_and (st_b (se_call (sa_cons (se_var (i := 1) (m := .fr) rfl) (sa_cons (se_var (i := 0) (m := .fr) rfl) (sa_cons (se_var (i := 2) (m := .fr) rfl) (sa_cons (se_var (i := 3) (m := .fr) rfl) sa_nil)))) hx0)) (st_tt (se_op os_gt (se_cb cs_len (sa_cons (se_var (i := 6) (m := (.own .fr)) rfl) sa_nil)) se_int))) (ss_ret (Γ' := [.fr, .fr, .fr, .fr, .fr, .fr, (.own .fr), .fr, .fr, .fr, .fr]) (sx_of se_bl)) ss_nil) (ss_ret (Γ' := [.fr, .fr, .fr, .fr, .fr, .fr, (.own .fr), .fr, .fr, .fr, .fr]) (sx_of (se_orV (se_notV (se_call (sa_cons (se_var (i := 1) (m := .fr) rfl) (sa_cons (se_var (i := 0) (m := .fr) rfl) (sa_cons (se_var (i := 2) (m := .fr) rfl) (sa_cons (se_var (i := 3) (m := .fr) rfl) (sa_cons (se_var (i := 4) (m := .fr) rfl) (sa_cons (se_var (i := 5) (m := .fr) rfl) sa_nil)))))) hx0)) (se_op os_eq (se_cb cs_len (sa_cons (se_fr (se_lc (vs := [7]) (si_seqC (se_var (i := 6) (m := (.own .fr)) rfl)) (sn_name (i := 7) (m := .fr) rfl nio) (keeps_name (by decide)) nx_name (by decide) (st_tt (se_op os_ordD (se_var (i := 7) (m := .fr) rfl) (se_tup (sa_cons (se_var (i := 4) (m := .fr) rfl) (sa_cons (se_var (i := 5) (m := .fr) rfl) sa_nil)) (by decide)))) se_int rfl rfl nioL) rfl) sa_nil)) se_int))))))))))
theorem ok_law (T : Tp P K mg) : FnTop P w K mg base CX0 T.a_law T.fd_law ["_law_script"] (spD K mg X0 [.sc] .fr m_law) := by
  have G__law_numbers := ok__law_numbers (P := P) (w := w) (base := base) T
  have G__law_program := ok__law_program (P := P) (w := w) (base := base) T
  have G_Program___init__ := ok_Program___init__ (P := P) (w := w) (base := base) T
  have G__law_some := ok__law_some (P := P) (w := w) (base := base) T
  have G_case_bound := ok_case_bound (P := P) (w := w) (base := base) T
  have G__law_bound := ok__law_bound (P := P) (w := w) (base := base) T
  have G_shows_none := ok_shows_none (P := P) (w := w) (base := base) T
  have G__law_shows_none := ok__law_shows_none (P := P) (w := w) (base := base) T
  have G_closes := ok_closes (P := P) (w := w) (base := base) T
  have G__law_closes := ok__law_closes (P := P) (w := w) (base := base) T
  have G__law_true := ok__law_true (P := P) (w := w) (base := base) T
  have G__law_refusals := ok__law_refusals (P := P) (w := w) (base := base) T
  refine fnTop (k := 12) (N := N_law) (pm := [.sc]) (Γl := [.fr, .fr, .fr, .fr, .fr, .fr, .fr, .fr, .fr, .fr, .fr, .fr, .fr, .fr, .fr, .fr]) T.F_law sc_law ⟨rfl, by decide, by decide⟩ rfl rfl fun cdv A outer s H E hg hr => ⟨_, (pss_cons (ps_set (i := 1) sc_law.nd rfl (by first | exact Or.inl rfl | exact Or.inr rfl) (pe_call G__law_numbers (hr.mono (by decide)) (by rfl) T.g__law_numbers T.F__law_numbers.kp T.b__law_numbers .nil pass0 (pa_cons (pv 0) (pa_cons pe_int pa_nil)))) (pss_cons (ps_asg (pe_call G__law_program (hr.mono (by decide)) (by rfl) T.g__law_program T.F__law_program.kp T.b__law_program .nil pass0 (pa_cons (pv 1) (pa_cons pe_int (pa_cons pe_int (pa_cons pe_int pa_nil))))) (pg_tup rfl (pgs_cons (pg_name (i := 2) sc_law.nd rfl (by first | exact Or.inl rfl | exact Or.inr rfl)) (pgs_cons (pg_name (i := 3) sc_law.nd rfl (by first | exact Or.inl rfl | exact Or.inr rfl)) (pgs_cons (pg_name (i := 4) sc_law.nd rfl (by first | exact Or.inl rfl | exact Or.inr rfl)) pgs_nil))))) (pss_cons (ps_set (i := 5) sc_law.nd rfl (by first | exact Or.inl rfl | exact Or.inr rfl) (pe_make T.mk_Program G_Program___init__ (hr.mono (by decide)) (by rfl) T.g_Program T.b_Program___init__ .nil pass0 (pa_cons (pv 3) (pa_cons (pv 4) pa_nil)))) (pss_cons (ps_for PassesOwn.never rfl (pi_range1 rfl T.z_range (pa_cons pe_int pa_nil)) (pg_name (i := 6) sc_law.nd rfl (by first | exact Or.inl rfl | exact Or.inr rfl)) (pss_cons (ps_set (i := 7) sc_law.nd rfl (by first | exact Or.inl rfl | exact Or.inr rfl) (pe_op op_addX pe_int (pe_op op_mulX pe_int (pv 6)))) (pss_cons (ps_setLc (i := 8) (own := [("_law_j", 9)]) (g := (L2.gName 9)) rfl sc_law.nd rfl rfl (sw_true rfl rfl rfl (by decide +kernel)) (pi_range1 rfl T.z_range (pa_cons (pv 2) pa_nil)) (blkOk_by (own := [("_law_j", 9)]) (N := N_law) (sc := defScope s_law) (by decide +kernel)) (fun _ _ _ _ _ => (pg_name (i := 9) sc_law.nd rfl (by first | exact Or.inl rfl | exact Or.inr rfl))) (fun _ _ _ _ _ => pts_nil) (fun _ _ _ _ _ => (pe_ix (kx_ix (K := K) rfl) (pe_lst (pa_cons pe_int (pa_cons pe_int (pa_cons pe_non (pa_cons pe_non pa_nil))))) (pe_op op_modX (pe_callTy call_int1 (by rfl) T.z_int (by decide +kernel) (pa_cons (pe_ix (kx_ix (K := K) rfl) (pv 1) (pe_op op_addX (pv 7) (pv 9)) (fun _ _ => rfl)) pa_nil)) pe_int) (fun _ _ => rfl)))) (pss_cons (ps_setLc (i := 10) (own := [("_law_k", 11)]) (g := (L2.gName 11)) rfl sc_law.nd rfl rfl (sw_true rfl rfl rfl (by decide +kernel)) (pi_range1 rfl T.z_range (pa_cons (pe_callB (kx_len (K := K) rfl) (by rfl) T.z_len (by decide +kernel) (pa_cons (pv 4) pa_nil)) pa_nil)) (blkOk_by (own := [("_law_k", 11)]) (N := N_law) (sc := defScope s_law) (by decide +kernel)) (fun _ _ _ _ _ => (pg_name (i := 11) sc_law.nd rfl (by first | exact Or.inl rfl | exact Or.inr rfl))) (fun _ _ _ _ _ => pts_nil) (fun _ _ _ _ _ => (pe_call G__law_some (hr.mono (by decide)) (by rfl) T.g__law_some T.F__law_some.kp T.b__law_some .nil pass0 (pa_cons (pv 1) (pa_cons pe_int (pa_cons (pe_op op_addX (pe_op op_mulX pe_int (pv 6)) (pv 11)) pa_nil)))))) (pss_cons (ps_if (pt_cmpR op_gt (pe_op op_modX (pv 6) pe_int) pe_int (nomark _)) (pss_one (ps_for PassesOwn.never rfl (pi_range1 rfl T.z_range (pa_cons (pe_callB (kx_len (K := K) rfl) (by rfl) T.z_len (by decide +kernel) (pa_cons (pv 4) pa_nil)) pa_nil)) (pg_name (i := 11) sc_law.nd rfl (by first | exact Or.inl rfl | exact Or.inr rfl)) (pss_cons (ps_set (i := 12) sc_law.nd rfl (by first | exact Or.inl rfl | exact Or.inr rfl) (pe_ix (kx_ix (K := K) rfl) (pe_lst (pa_cons pe_int (pa_cons (pe_un un_neg pe_int) pa_nil))) (pe_callTy call_int1 (by rfl) T.z_int (by decide +kernel) (pa_cons (pe_cmpR (kx_eq (K := K) rfl hr.units) (pe_ix (kx_ix (K := K) rfl) (pe_ix (kx_ix (K := K) rfl) (pv 4) (pv 11) (fun _ _ => rfl)) pe_int (fun _ _ => rfl)) pe_str (nomark _)) pa_nil)) (fun _ _ => rfl))) (pss_one (ps_asg (pe_tup (pa_cons (pe_op op_mulX (pv 12) (pe_callB call_abs (by rfl) T.z_abs (by decide +kernel) (pa_cons (pe_ix (kx_ix (K := K) rfl) (pe_ix (kx_ix (K := K) rfl) (pv 10) (pv 11) (fun _ _ => rfl)) pe_int (fun _ _ => rfl)) pa_nil))) (pa_cons (pe_ix (kx_ix (K := K) rfl) (pe_ix (kx_ix (K := K) rfl) (pv 10) (pv 11) (fun _ _ => rfl)) pe_int (fun _ _ => rfl)) pa_nil))) (pg_sub (pv 10) (pv 11) set_list)))))) pss_nil) (pss_cons (ps_setLc (i := 13) (own := [("_law_j", 9)]) (g := (L2.gName 9)) rfl sc_law.nd rfl rfl (sw_true rfl rfl rfl (by decide +kernel)) (pi_range1 rfl T.z_range (pa_cons (pv 2) pa_nil)) (blkOk_by (own := [("_law_j", 9)]) (N := N_law) (sc := defScope s_law) (by decide +kernel)) (fun _ _ _ _ _ => (pg_name (i := 9) sc_law.nd rfl (by first | exact Or.inl rfl | exact Or.inr rfl))) (fun _ _ _ _ _ => pts_nil) (fun _ _ _ _ _ => (pe_op op_modX (pe_callTy call_int1 (by rfl) T.z_int (by decide +kernel) (pa_cons (pe_ix (kx_ix (K := K) rfl) (pv 1) (pe_op op_addX (pe_op op_addX pe_int (pv 6)) (pv 9)) (fun _ _ => rfl)) pa_nil)) pe_int))) (pss_cons (ps_set (i := 14) sc_law.nd rfl (by first | exact Or.inl rfl | exact Or.inr rfl) (pe_op op_sub (pe_op op_modX (pe_callTy call_int1 (by rfl) T.z_int (by decide +kernel) (pa_cons (pe_ix (kx_ix (K := K) rfl) (pv 1) (pe_op op_addX pe_int (pv 6)) (fun _ _ => rfl)) pa_nil)) pe_int) pe_int)) (pss_cons (ps_set (i := 15) sc_law.nd rfl (by first | exact Or.inl rfl | exact Or.inr rfl) (pe_callB (kx_repr (K := K) rfl hg hr.units65) (by rfl) T.z_repr (by decide +kernel) (pa_cons (pe_tup (pa_cons (pv 8) (pa_cons (pv 10) (pa_cons (pv 13) pa_nil)))) pa_nil))) (pss_cons (ps_if (pt_cmpR (kx_ne (K := K) rfl hr.units) (pe_call G_case_bound (hr.mono (by decide)) (by rfl) T.g_case_bound T.F_case_bound.kp T.b_case_bound .nil passN (pa_cons (pv 5) (pa_cons (pv 8) (pa_cons (pv 10) pa_nil)))) (pe_call G__law_bound (hr.mono (by decide)) (by rfl) T.g__law_bound T.F__law_bound.kp T.b__law_bound .nil pass0 (pa_cons (pv 3) (pa_cons (pv 4) (pa_cons (pv 8) (pa_cons (pv 10) pa_nil))))) (nomark _)) (pss_one (ps_ret pe_bl)) pss_nil) (pss_cons (ps_if (pt_cmpR (kx_ne (K := K) rfl hr.units) (pe_call G_shows_none (hr.mono (by decide)) (by rfl) T.g_shows_none T.F_shows_none.kp T.b_shows_none .nil passN (pa_cons (pv 5) (pa_cons (pv 8) (pa_cons (pv 10) pa_nil)))) (pe_call G__law_shows_none (hr.mono (by decide)) (by rfl) T.g__law_shows_none T.F__law_shows_none.kp T.b__law_shows_none .nil pass0 (pa_cons (pv 3) (pa_cons (pv 4) (pa_cons (pv 8) (pa_cons (pv 10) pa_nil))))) (nomark _)) (pss_one (ps_ret pe_bl)) pss_nil) (pss_cons (ps_if (pt_cmpR (kx_ne (K := K) rfl hr.units) (pe_call G_closes (hr.mono (by decide)) (by rfl) T.g_closes T.F_closes.kp T.b_closes .nil passN (pa_cons (pv 5) (pa_cons (pv 8) (pa_cons (pv 10) (pa_cons (pv 14) (pa_cons (pv 13) pa_nil)))))) (pe_call G__law_closes (hr.mono (by decide)) (by rfl) T.g__law_closes T.F__law_closes.kp T.b__law_closes .nil pass0 (pa_cons (pv 3) (pa_cons (pv 4) (pa_cons (pv 8) (pa_cons (pv 10) (pa_cons (pv 14) (pa_cons (pv 13) pa_nil))))))) (nomark _)) (pss_one (ps_ret pe_bl)) pss_nil) (pss_cons (ps_set (i := 16) sc_law.nd rfl (by first | exact Or.inl rfl | exact Or.inr rfl) (pe_op op_addX (pv 10) (pe_lst (pa_cons (pe_tup (pa_cons pe_int (pa_cons pe_int pa_nil))) pa_nil)))) (pss_cons (ps_if (PW.pt (pw_or (pt_cmpR op_notB (pe_call G_shows_none (hr.mono (by decide)) (by rfl) T.g_shows_none T.F_shows_none.kp T.b_shows_none .nil passN (pa_cons (pv 5) (pa_cons (pv 8) (pa_cons (pv 16) pa_nil)))) pe_bl (nomark _)) (pw_or1 (pt_cmpR op_notB (pe_call G_closes (hr.mono (by decide)) (by rfl) T.g_closes T.F_closes.kp T.b_closes .nil passN (pa_cons (pv 5) (pa_cons (pv 8) (pa_cons (pv 16) (pa_cons (pv 14) (pa_cons (pv 13) pa_nil)))))) pe_bl (nomark _))))) (pss_one (ps_ret pe_bl)) pss_nil) (pss_one (ps_if (PW.pt (pw_or (pt_cmpR (kx_ne (K := K) rfl hr.units) (pe_callB (kx_repr (K := K) rfl hg hr.units65) (by rfl) T.z_repr (by decide +kernel) (pa_cons (pe_tup (pa_cons (pv 8) (pa_cons (pv 10) (pa_cons (pv 13) pa_nil)))) pa_nil)) (pv 15) (nomark _)) (pw_or1 (pt_not (pt_val (pe_call G__law_true (hr.mono (by decide)) (by rfl) T.g__law_true T.F__law_true.kp T.b__law_true .nil pass0 (pa_cons (pv 4) (pa_cons (pv 3) (pa_cons (pv 8) (pa_cons (pv 10) (pa_cons (pv 14) (pa_cons (pv 13) pa_nil)))))))))))) (pss_one (ps_ret pe_bl)) pss_nil))))))))))))))) (pss_one (ps_ret (pe_call G__law_refusals (hr.mono (by decide)) (by rfl) T.g__law_refusals T.F__law_refusals.kp T.b__law_refusals .nil pass0 (pa_cons (pe_slice (kx_sl (K := K) rfl) (pv 1) (po_some pe_int) (po_some pe_int)) (pa_cons (pv 5) (pa_cons (pv 8) (pa_cons (pv 10) pa_nil))))))))))), fun Bp F0 => ⟨[.sc, .fr, .fr, .fr, .fr, .fr, .fr, .fr, .fr, .fr, .fr, .fr, .fr, .fr, .fr, .fr, .fr], ?_⟩⟩
  unfold b_law
  exact (ss_seq (ss_set (i := 1) (m := .fr) (sx_of (se_fr (se_call (sa_cons (se_var (i := 0) (m := .sc) rfl) (sa_cons se_int sa_nil)) hx0) rfl)) (by decide) nio) (ss_seq (ss_asg (sx_of (se_call (sa_cons (se_var (i := 1) (m := .fr) rfl) (sa_cons se_int (sa_cons se_int (sa_cons se_int sa_nil)))) hx0)) (sn_tup (m := .fr) (is := [2, 3, 4]) (Names.cons (Names.cons (Names.cons Names.nil))) (by decide) nioL) nx_tup) (ss_seq (ss_set (i := 5) (m := .fr) (sx_of (se_make (c := "Program") (sa_cons (se_var (i := 3) (m := .fr) rfl) (sa_cons (se_var (i := 4) (m := .fr) rfl) sa_nil)) T.g_Program hx0)) (by decide) nio) (ss_seq (ss_for (si_rng1 (sa_cons se_int sa_nil)) (sn_name (i := 6) (m := .fr) rfl nio) nx_name (ss_seq (ss_set (i := 7) (m := .fr) (sx_of (se_fr (se_op os_add se_int (se_op os_mul se_int (se_var (i := 6) (m := .fr) rfl))) rfl)) (by decide) nio) (ss_seq (ss_set (i := 8) (sx_of (se_fr (se_lc (vs := [9]) (si_rng1 (sa_cons (se_var (i := 2) (m := .fr) rfl) sa_nil)) (sn_name (i := 9) (m := .fr) rfl nio) (keeps_name (by decide)) nx_name (by decide) st_yes (se_op os_ix (se_fr (se_lst (m := .fr) (sa_cons se_int (sa_cons se_int (sa_cons se_non (sa_cons se_non sa_nil)))) (by decide)) rfl) (se_op os_mod (se_cb cs_int (sa_cons (se_op os_ix (se_var (i := 1) (m := .fr) rfl) (se_fr (se_op os_add (se_var (i := 7) (m := .fr) rfl) (se_var (i := 9) (m := .fr) rfl)) rfl)) sa_nil)) se_int)) rfl rfl nioL) rfl)) (by decide) nio) (ss_seq (ss_set (i := 10) (sx_of (se_lc (vs := [11]) (si_rng1 (sa_cons (se_cb cs_len (sa_cons (se_var (i := 4) (m := .fr) rfl) sa_nil)) sa_nil)) (sn_name (i := 11) (m := .fr) rfl nio) (keeps_name (by decide)) nx_name (by decide) st_yes (se_call (sa_cons (se_var (i := 1) (m := .fr) rfl) (sa_cons se_int (sa_cons (se_fr (se_op os_add (se_op os_mul se_int (se_var (i := 6) (m := .fr) rfl)) (se_var (i := 11) (m := .fr) rfl)) rfl) sa_nil))) hx0) rfl rfl nioL)) (by decide) nio) (ss_seq (ss_frz (i := 10) (m := (.own .fr)) (ss_if (st_tt (se_op os_gt (se_op os_mod (se_var (i := 6) (m := .fr) rfl) se_int) se_int)) (ss_for (si_rng1 (sa_cons (se_cb cs_len (sa_cons (se_var (i := 4) (m := .fr) rfl) sa_nil)) sa_nil)) (sn_name (i := 11) (m := .fr) rfl nio) nx_name (ss_seq (ss_set (i := 12) (m := .fr) (sx_of (se_op os_ix (se_fr (se_lst (m := .fr) (sa_cons se_int (sa_cons (se_neg se_int) sa_nil)) (by decide)) rfl) (se_cb cs_int (sa_cons (se_op os_eq (se_op os_ix (se_op os_ix (se_var (i := 4) (m := .fr) rfl) (se_var (i := 11) (m := .fr) rfl)) se_int) se_str) sa_nil)))) (by decide) nio) (ss_seti (i := 10) (m := .fr) rfl (sx_of (se_tup (sa_cons (se_op os_mul (se_var (i := 12) (m := .fr) rfl) (se_cb cs_abs (sa_cons (se_op os_ix (se_op os_ix (se_var (i := 10) (m := (.own .fr)) rfl) (se_var (i := 11) (m := .fr) rfl)) se_int) sa_nil))) (sa_cons (se_op os_ix (se_op os_ix (se_var (i := 10) (m := (.own .fr)) rfl) (se_var (i := 11) (m := .fr) rfl)) se_int) sa_nil)) (by decide))) (se_var (i := 11) (m := .fr) rfl) rfl))) ss_nil) rfl nio) (ss_seq (ss_set (i := 13) (sx_of (se_fr (se_lc (vs := [9]) (si_rng1 (sa_cons (se_var (i := 2) (m := .fr) rfl) sa_nil)) (sn_name (i := 9) (m := .fr) rfl nio) (keeps_name (by decide)) nx_name (by decide) st_yes (se_op os_mod (se_cb cs_int (sa_cons (se_op os_ix (se_var (i := 1) (m := .fr) rfl) (se_fr (se_op os_add (se_fr (se_op os_add se_int (se_var (i := 6) (m := .fr) rfl)) rfl) (se_var (i := 9) (m := .fr) rfl)) rfl)) sa_nil)) se_int) rfl rfl nioL) rfl)) (by decide) nio) (ss_seq (ss_set (i := 14) (m := .fr) (sx_of (se_op os_sub (se_op os_mod (se_cb cs_int (sa_cons (se_op os_ix (se_var (i := 1) (m := .fr) rfl) (se_fr (se_op os_add se_int (se_var (i := 6) (m := .fr) rfl)) rfl)) sa_nil)) se_int) se_int)) (by decide) nio) (ss_seq (ss_set (i := 15) (m := .fr) (sx_of (se_cb cs_repr (sa_cons (se_tup (sa_cons (se_var (i := 8) (m := .fr) rfl) (sa_cons (se_var (i := 10) (m := .fr) rfl) (sa_cons (se_var (i := 13) (m := .fr) rfl) sa_nil))) (by decide)) sa_nil))) (by decide) nio) (ss_seq (ss_if (st_tt (se_op os_ne (se_call (sa_cons (se_var (i := 5) (m := .fr) rfl) (sa_cons (se_var (i := 8) (m := .fr) rfl) (sa_cons (se_var (i := 10) (m := .fr) rfl) sa_nil))) hxN) (se_call (sa_cons (se_var (i := 3) (m := .fr) rfl) (sa_cons (se_var (i := 4) (m := .fr) rfl) (sa_cons (se_var (i := 8) (m := .fr) rfl) (sa_cons (se_var (i := 10) (m := .fr) rfl) sa_nil)))) hx0))) (ss_ret (Γ' := [.sc, .fr, .fr, .fr, .fr, .fr, .fr, .fr, .fr, .fr, .fr, .fr, .fr, .fr, .fr, .fr, .fr]) (sx_of se_bl)) ss_nil) (ss_seq (ss_if (st_tt (se_op os_ne (se_call (sa_cons (se_var (i := 5) (m := .fr) rfl) (sa_cons (se_var (i := 8) (m := .fr) rfl) (sa_cons (se_var (i := 10) (m := .fr) rfl) sa_nil))) hxN) (se_call (sa_cons (se_var (i := 3) (m := .fr) rfl) (sa_cons (se_var (i := 4) (m := .fr) rfl) (sa_cons (se_var (i := 8) (m := .fr) rfl) (sa_cons (se_var (i := 10) (m := .fr) rfl) sa_nil)))) hx0))) (ss_ret (Γ' := [.sc, .fr, .fr, .fr, .fr, .fr, .fr, .fr, .fr, .fr, .fr, .fr, .fr, .fr, .fr, .fr, .fr]) (sx_of se_bl)) ss_nil) (ss_seq (ss_if (st_tt (se_op os_ne (se_call (sa_cons (se_var (i := 5) (m := .fr) rfl) (sa_cons (se_var (i := 8) (m := .fr) rfl) (sa_cons (se_var (i := 10) (m := .fr) rfl) (sa_cons (se_var (i := 14) (m := .fr) rfl) (sa_cons (se_var (i := 13) (m := .fr) rfl) sa_nil))))) hxN) (se_call (sa_cons (se_var (i := 3) (m := .fr) rfl) (sa_cons (se_var (i := 4) (m := .fr) rfl) (sa_cons (se_var (i := 8) (m := .fr) rfl) (sa_cons (se_var (i := 10) (m := .fr) rfl) (sa_cons (se_var (i := 14) (m := .fr) rfl) (sa_cons (se_var (i := 13) (m := .fr) rfl) sa_nil)))))) hx0))) (ss_ret (Γ' := [.sc, .fr, .fr, .fr, .fr, .fr, .fr, .fr, .fr, .fr, .fr, .fr, .fr, .fr, .fr, .fr, .fr]) (sx_of se_bl)) ss_nil) (ss_seq (ss_set (i := 16) (m := .fr) (sx_of (se_fr (se_op os_add (se_var (i := 10) (m := .fr) rfl) (se_fr (se_lst (m := .fr) (sa_cons (se_tup (sa_cons se_int (sa_cons se_int sa_nil)) (by decide)) sa_nil) (by decide)) rfl)) rfl)) (by decide) nio) (ss_seq (ss_if (st_or (st_tt (se_op os_notB (se_call (sa_cons (se_var (i := 5) (m := .fr) rfl) (sa_cons (se_var (i := 8) (m := .fr) rfl) (sa_cons (se_var (i := 16) (m := .fr) rfl) sa_nil))) hxN) se_bl)) (st_tt (se_op os_notB (se_call (sa_cons (se_var (i := 5) (m := .fr) rfl) (sa_cons (se_var (i := 8) (m := .fr) rfl) (sa_cons (se_var (i := 16) (m := .fr) rfl) (sa_cons (se_var (i := 14) (m := .fr) rfl) (sa_cons (se_var (i := 13) (m := .fr) rfl) sa_nil))))) hxN) se_bl))) (ss_ret (Γ' := [.sc, .fr, .fr, .fr, .fr, .fr, .fr, .fr, .fr, .fr, .fr, .fr, .fr, .fr, .fr, .fr, .fr]) (sx_of se_bl)) ss_nil) (ss_if (st_or (st_tt (se_op os_ne (se_cb cs_repr (sa_cons (se_tup (sa_cons (se_var (i := 8) (m := .fr) rfl) (sa_cons (se_var (i := 10) (m := .fr) rfl) (sa_cons (se_var (i := 13) (m := .fr) rfl) sa_nil))) (by decide)) sa_nil)) (se_var (i := 15) (m := .fr) rfl))) (st_not (st_b (se_call (sa_cons (se_var (i := 4) (m := .fr) rfl) (sa_cons (se_var (i := 3) (m := .fr) rfl) (sa_cons (se_var (i := 8) (m := .fr) rfl) (sa_cons (se_var (i := 10) (m := .fr) rfl) (sa_cons (se_var (i := 14) (m := .fr) rfl) (sa_cons (se_var (i := 13) (m := .fr) rfl) sa_nil)))))) hx0)))) (ss_ret (Γ' := [.sc, .fr, .fr, .fr, .fr, .fr, .fr, .fr, .fr, .fr, .fr, .fr, .fr, .fr, .fr, .fr, .fr]) (sx_of se_bl)) ss_nil)))))))))))))) (ss_ret (Γ' := [.sc, .fr, .fr, .fr, .fr, .fr, .fr, .fr, .fr, .fr, .fr, .fr, .fr, .fr, .fr, .fr, .fr]) (sx_of (se_call (sa_cons (se_fr (se_sl (se_var (i := 1) (m := .fr) rfl) (so_some se_int) (so_some se_int)) rfl) (sa_cons (se_var (i := 5) (m := .fr) rfl) (sa_cons (se_var (i := 8) (m := .fr) rfl) (sa_cons (se_var (i := 10) (m := .fr) rfl) sa_nil)))) hx0)))))))
end
end M
end

/-! text Hd -/
section
set_option maxRecDepth 100000
set_option maxHeartbeats 8000000
namespace M
open PySem PySem.Spec PyProof.Rows L2 DL
/-! the head -/
def fnX : List He.DefD := [⟨("fraction", none), "fraction", "fraction", defArgs s_fraction, defBody s_fraction, defScope s_fraction, [], []⟩,
  ⟨("plus", none), "plus", "plus", defArgs s_plus, defBody s_plus, defScope s_plus, [], []⟩,
  ⟨("minus", none), "minus", "minus", defArgs s_minus, defBody s_minus, defScope s_minus, [], []⟩,
  ⟨("is_less", none), "is_less", "is_less", defArgs s_is_less, defBody s_is_less, defScope s_is_less, [], []⟩,
  ⟨("ceiling", none), "ceiling", "ceiling", defArgs s_ceiling, defBody s_ceiling, defScope s_ceiling, [], []⟩,
  ⟨("added", none), "added", "added", defArgs s_added, defBody s_added, defScope s_added, [], []⟩,
  ⟨("weighted", none), "weighted", "weighted", defArgs s_weighted, defBody s_weighted, defScope s_weighted, [], []⟩,
  ⟨("Program", some "rows"), "rows", "Program.rows", defArgs s_Program_rows, defBody s_Program_rows, defScope s_Program_rows, [], []⟩,
  ⟨("are_fit", none), "are_fit", "are_fit", defArgs s_are_fit, defBody s_are_fit, defScope s_are_fit, [], []⟩,
  ⟨("check_multipliers", none), "check_multipliers", "check_multipliers", defArgs s_check_multipliers, defBody s_check_multipliers, defScope s_check_multipliers, [], []⟩,
  ⟨("Program", some "count"), "count", "Program.count", defArgs s_Program_count, defBody s_Program_count, defScope s_Program_count, [], []⟩,
  ⟨("loads", none), "loads", "loads", defArgs s_loads, defBody s_loads, defScope s_loads, [], []⟩,
  ⟨("gain", none), "gain", "gain", defArgs s_gain, defBody s_gain, defScope s_gain, [], []⟩,
  ⟨("check_program", none), "check_program", "check_program", defArgs s_check_program, defBody s_check_program, defScope s_check_program, [], []⟩,
  ⟨("check_fixing", none), "check_fixing", "check_fixing", defArgs s_check_fixing, defBody s_check_fixing, defScope s_check_fixing, [], []⟩,
  ⟨("least_part", none), "least_part", "least_part", defArgs s_least_part, defBody s_least_part, defScope s_least_part, [], []⟩,
  ⟨("bound_of", none), "bound_of", "bound_of", defArgs s_bound_of, defBody s_bound_of, defScope s_bound_of, [], []⟩,
  ⟨("Program", some "prices"), "prices", "Program.prices", defArgs s_Program_prices, defBody s_Program_prices, defScope s_Program_prices, [], []⟩,
  ⟨("case_bound", none), "case_bound", "case_bound", defArgs s_case_bound, defBody s_case_bound, defScope s_case_bound, [], []⟩,
  ⟨("shows_none", none), "shows_none", "shows_none", defArgs s_shows_none, defBody s_shows_none, defScope s_shows_none, [], []⟩,
  ⟨("first_list", none), "first_list", "first_list", defArgs s_first_list, defBody s_first_list, defScope s_first_list, [], []⟩,
  ⟨("closes", none), "closes", "closes", defArgs s_closes, defBody s_closes, defScope s_closes, [], []⟩,
  ⟨("_law_numbers", none), "_law_numbers", "_law_numbers", defArgs s__law_numbers, defBody s__law_numbers, defScope s__law_numbers, [], []⟩,
  ⟨("_law_lowest", none), "_law_lowest", "_law_lowest", defArgs s__law_lowest, defBody s__law_lowest, defScope s__law_lowest, [], []⟩,
  ⟨("_law_plus", none), "_law_plus", "_law_plus", defArgs s__law_plus, defBody s__law_plus, defScope s__law_plus, [], []⟩,
  ⟨("_law_added", none), "_law_added", "_law_added", defArgs s__law_added, defBody s__law_added, defScope s__law_added, [], []⟩,
  ⟨("_law_weighted", none), "_law_weighted", "_law_weighted", defArgs s__law_weighted, defBody s__law_weighted, defScope s__law_weighted, [], []⟩,
  ⟨("_law_program", none), "_law_program", "_law_program", defArgs s__law_program, defBody s__law_program, defScope s__law_program, [], []⟩,
  ⟨("_law_good", none), "_law_good", "_law_good", defArgs s__law_good, defBody s__law_good, defScope s__law_good, [], []⟩,
  ⟨("_law_lists", none), "_law_lists", "_law_lists", defArgs s__law_lists, defBody s__law_lists, defScope s__law_lists, [], []⟩,
  ⟨("_law_worth", none), "_law_worth", "_law_worth", defArgs s__law_worth, defBody s__law_worth, defScope s__law_worth, [], []⟩,
  ⟨("_law_fit", none), "_law_fit", "_law_fit", defArgs s__law_fit, defBody s__law_fit, defScope s__law_fit, [], []⟩,
  ⟨("_law_bound", none), "_law_bound", "_law_bound", defArgs s__law_bound, defBody s__law_bound, defScope s__law_bound, [], []⟩,
  ⟨("_law_shows_none", none), "_law_shows_none", "_law_shows_none", defArgs s__law_shows_none, defBody s__law_shows_none, defScope s__law_shows_none, [], []⟩,
  ⟨("_law_closes", none), "_law_closes", "_law_closes", defArgs s__law_closes, defBody s__law_closes, defScope s__law_closes, [], []⟩,
  ⟨("_law_some", none), "_law_some", "_law_some", defArgs s__law_some, defBody s__law_some, defScope s__law_some, [], []⟩,
  ⟨("_law_refused", none), "_law_refused", "_law_refused", defArgs s__law_refused, defBody s__law_refused, defScope s__law_refused, [], []⟩,
  ⟨("Program", some "__init__"), "__init__", "Program.__init__", defArgs s_Program___init__, defBody s_Program___init__, defScope s_Program___init__, [], []⟩,
  ⟨("_law_refusals", none), "_law_refusals", "_law_refusals", defArgs s__law_refusals, defBody s__law_refusals, defScope s__law_refusals, [], []⟩,
  ⟨("_law_true", none), "_law_true", "_law_true", defArgs s__law_true, defBody s__law_true, defScope s__law_true, [], []⟩,
  ⟨("law", none), "law", "law", defArgs s_law, defBody s_law, defScope s_law, [], []⟩]
def qsX : Qs := [(fun K => (He.Fa.glo "fraction").ok K),
  (fun K => (He.Fa.glo "plus").ok K),
  (fun K => (He.Fa.glo "minus").ok K),
  (fun K => (He.Fa.glo "is_less").ok K),
  (fun K => (He.Fa.glo "ceiling").ok K),
  (fun K => (He.Fa.glo "added").ok K),
  (fun K => (He.Fa.glo "weighted").ok K),
  (fun K => (He.Fa.meth "Program" "rows").ok K),
  (fun K => (He.Fa.glo "are_fit").ok K),
  (fun K => (He.Fa.glo "check_multipliers").ok K),
  (fun K => (He.Fa.meth "Program" "count").ok K),
  (fun K => (He.Fa.glo "loads").ok K),
  (fun K => (He.Fa.glo "gain").ok K),
  (fun K => (He.Fa.glo "check_program").ok K),
  (fun K => (He.Fa.glo "check_fixing").ok K),
  (fun K => (He.Fa.glo "least_part").ok K),
  (fun K => (He.Fa.glo "bound_of").ok K),
  (fun K => (He.Fa.meth "Program" "prices").ok K),
  (fun K => (He.Fa.glo "case_bound").ok K),
  (fun K => (He.Fa.glo "shows_none").ok K),
  (fun K => (He.Fa.glo "first_list").ok K),
  (fun K => (He.Fa.glo "closes").ok K),
  (fun K => (He.Fa.glo "_law_numbers").ok K),
  (fun K => (He.Fa.glo "_law_lowest").ok K),
  (fun K => (He.Fa.glo "_law_plus").ok K),
  (fun K => (He.Fa.glo "_law_added").ok K),
  (fun K => (He.Fa.glo "_law_weighted").ok K),
  (fun K => (He.Fa.glo "_law_program").ok K),
  (fun K => (He.Fa.glo "_law_good").ok K),
  (fun K => (He.Fa.glo "_law_lists").ok K),
  (fun K => (He.Fa.glo "_law_worth").ok K),
  (fun K => (He.Fa.glo "_law_fit").ok K),
  (fun K => (He.Fa.glo "_law_bound").ok K),
  (fun K => (He.Fa.glo "_law_shows_none").ok K),
  (fun K => (He.Fa.glo "_law_closes").ok K),
  (fun K => (He.Fa.glo "_law_some").ok K),
  (fun K => (He.Fa.glo "_law_refused").ok K),
  (fun K => (He.Fa.mkr "Program").ok K),
  (fun K => (He.Fa.glo "_law_refusals").ok K),
  (fun K => (He.Fa.glo "_law_true").ok K),
  (fun K => (He.Fa.glo "law").ok K),
  (fun K => (He.Fa.glo "Program").ok K),
  (fun K => (He.Fa.cls "Program").ok K),
  (fun K => (He.Fa.noat "Program" "_prices").ok K),
  (fun K => (He.Fa.noat "Program" "_rows").ok K),
  (fun K => (He.Fa.int "MOST_ROWS" 80).ok K),
  (fun K => (He.Fa.int "MOST_VARIABLES_bounds" 16).ok K),
  (fun K => (He.Fa.int "MOST_VARIABLES_program" 40).ok K),
  (fun K => (He.Fa.glo "RELATIONS").ok K),
  (fun K => He.tupB K "RELATIONS" [(.str (Str.ofString "least")), (.str (Str.ofString "most")), (.str (Str.ofString "equal"))]),
  (fun K => (He.Fa.glo "ZERO").ok K),
  (fun K => He.tupB K "ZERO" [(.int 0), (.int 1)]),
  (fun K => (He.Fa.free "abs").ok K),
  (fun K => (He.Fa.free "all").ok K),
  bltB "gcd" "math.gcd",
  (fun K => (He.Fa.free "int").ok K),
  (fun K => (He.Fa.free "isinstance").ok K),
  (fun K => (He.Fa.free "len").ok K),
  (fun K => (He.Fa.free "list").ok K),
  (fun K => (He.Fa.free "range").ok K),
  (fun K => (He.Fa.free "repr").ok K),
  (fun K => (He.Fa.free "sum").ok K),
  (fun K => (He.Fa.free "zip").ok K),
  (fun K => (He.Fa.glo "WebError").ok K),
  (fun K => (He.Fa.free "super").ok K),
  (iniB "WebError" PySem.Challenge.pw_trunkweb_k65_bounds_under_fixings.main.file),
  thpB,
  (gloB ecsX),
  (clsB "WebError" ecsX),
  (exmB "WebError" ecsX),
  (isB ecsX)]
end M
end

/-! text End -/
section
set_option maxRecDepth 100000
set_option maxHeartbeats 8000000
namespace M
open PySem PySem.Spec PyProof.Rows L2 DL
def iniS : Stmt := inClass (topS 2) 0
theorem facts {w : World} {K : PySem.W.Frag} {h : Heap} {mg : Str → Option Value} {f : Addr} (X : K.In h) (G : h.Ns mainGlobals mg) (hfa : mg ("law" : Str) = some (.ref f)) (c : SaysX qsX fnX K) (ei : iniW K "WebError" = (some (("__init__" : Str), ("WebError.__init__" : Str), defArgs iniS, FuncBody.stmts (defBody iniS), defScope iniS, mainGlobals, builtinsNs) : IniW)) :
    ∃ fd : FuncData, (∀ (s : Shared) (v : Value), BindsTo s fd ⟨[v], []⟩ [("_law_script", v)]) ∧ ∀ base : Heap, K.In base → base.Ns mainGlobals mg → FnTop PySem.Challenge.pw_trunkweb_k65_bounds_under_fixings w K mg base CX0 f fd ["_law_script"] (spD K mg X0 [.sc] .fr m_law) := by
  obtain ⟨fd_fraction, F_fraction⟩ := c.def_ 0 (d := ⟨("fraction", none), "fraction", "fraction", defArgs s_fraction, defBody s_fraction, defScope s_fraction, [], []⟩) rfl
  obtain ⟨fd_plus, F_plus⟩ := c.def_ 1 (d := ⟨("plus", none), "plus", "plus", defArgs s_plus, defBody s_plus, defScope s_plus, [], []⟩) rfl
  obtain ⟨fd_minus, F_minus⟩ := c.def_ 2 (d := ⟨("minus", none), "minus", "minus", defArgs s_minus, defBody s_minus, defScope s_minus, [], []⟩) rfl
  obtain ⟨fd_is_less, F_is_less⟩ := c.def_ 3 (d := ⟨("is_less", none), "is_less", "is_less", defArgs s_is_less, defBody s_is_less, defScope s_is_less, [], []⟩) rfl
  obtain ⟨fd_ceiling, F_ceiling⟩ := c.def_ 4 (d := ⟨("ceiling", none), "ceiling", "ceiling", defArgs s_ceiling, defBody s_ceiling, defScope s_ceiling, [], []⟩) rfl
  obtain ⟨fd_added, F_added⟩ := c.def_ 5 (d := ⟨("added", none), "added", "added", defArgs s_added, defBody s_added, defScope s_added, [], []⟩) rfl
  obtain ⟨fd_weighted, F_weighted⟩ := c.def_ 6 (d := ⟨("weighted", none), "weighted", "weighted", defArgs s_weighted, defBody s_weighted, defScope s_weighted, [], []⟩) rfl
  obtain ⟨fd_Program_rows, F_Program_rows⟩ := c.def_ 7 (d := ⟨("Program", some "rows"), "rows", "Program.rows", defArgs s_Program_rows, defBody s_Program_rows, defScope s_Program_rows, [], []⟩) rfl
  obtain ⟨fd_are_fit, F_are_fit⟩ := c.def_ 8 (d := ⟨("are_fit", none), "are_fit", "are_fit", defArgs s_are_fit, defBody s_are_fit, defScope s_are_fit, [], []⟩) rfl
  obtain ⟨fd_check_multipliers, F_check_multipliers⟩ := c.def_ 9 (d := ⟨("check_multipliers", none), "check_multipliers", "check_multipliers", defArgs s_check_multipliers, defBody s_check_multipliers, defScope s_check_multipliers, [], []⟩) rfl
  obtain ⟨fd_Program_count, F_Program_count⟩ := c.def_ 10 (d := ⟨("Program", some "count"), "count", "Program.count", defArgs s_Program_count, defBody s_Program_count, defScope s_Program_count, [], []⟩) rfl
  obtain ⟨fd_loads, F_loads⟩ := c.def_ 11 (d := ⟨("loads", none), "loads", "loads", defArgs s_loads, defBody s_loads, defScope s_loads, [], []⟩) rfl
  obtain ⟨fd_gain, F_gain⟩ := c.def_ 12 (d := ⟨("gain", none), "gain", "gain", defArgs s_gain, defBody s_gain, defScope s_gain, [], []⟩) rfl
  obtain ⟨fd_check_program, F_check_program⟩ := c.def_ 13 (d := ⟨("check_program", none), "check_program", "check_program", defArgs s_check_program, defBody s_check_program, defScope s_check_program, [], []⟩) rfl
  obtain ⟨fd_check_fixing, F_check_fixing⟩ := c.def_ 14 (d := ⟨("check_fixing", none), "check_fixing", "check_fixing", defArgs s_check_fixing, defBody s_check_fixing, defScope s_check_fixing, [], []⟩) rfl
  obtain ⟨fd_least_part, F_least_part⟩ := c.def_ 15 (d := ⟨("least_part", none), "least_part", "least_part", defArgs s_least_part, defBody s_least_part, defScope s_least_part, [], []⟩) rfl
  obtain ⟨fd_bound_of, F_bound_of⟩ := c.def_ 16 (d := ⟨("bound_of", none), "bound_of", "bound_of", defArgs s_bound_of, defBody s_bound_of, defScope s_bound_of, [], []⟩) rfl
  obtain ⟨fd_Program_prices, F_Program_prices⟩ := c.def_ 17 (d := ⟨("Program", some "prices"), "prices", "Program.prices", defArgs s_Program_prices, defBody s_Program_prices, defScope s_Program_prices, [], []⟩) rfl
  obtain ⟨fd_case_bound, F_case_bound⟩ := c.def_ 18 (d := ⟨("case_bound", none), "case_bound", "case_bound", defArgs s_case_bound, defBody s_case_bound, defScope s_case_bound, [], []⟩) rfl
  obtain ⟨fd_shows_none, F_shows_none⟩ := c.def_ 19 (d := ⟨("shows_none", none), "shows_none", "shows_none", defArgs s_shows_none, defBody s_shows_none, defScope s_shows_none, [], []⟩) rfl
  obtain ⟨fd_first_list, F_first_list⟩ := c.def_ 20 (d := ⟨("first_list", none), "first_list", "first_list", defArgs s_first_list, defBody s_first_list, defScope s_first_list, [], []⟩) rfl
  obtain ⟨fd_closes, F_closes⟩ := c.def_ 21 (d := ⟨("closes", none), "closes", "closes", defArgs s_closes, defBody s_closes, defScope s_closes, [], []⟩) rfl
  obtain ⟨fd__law_numbers, F__law_numbers⟩ := c.def_ 22 (d := ⟨("_law_numbers", none), "_law_numbers", "_law_numbers", defArgs s__law_numbers, defBody s__law_numbers, defScope s__law_numbers, [], []⟩) rfl
  obtain ⟨fd__law_lowest, F__law_lowest⟩ := c.def_ 23 (d := ⟨("_law_lowest", none), "_law_lowest", "_law_lowest", defArgs s__law_lowest, defBody s__law_lowest, defScope s__law_lowest, [], []⟩) rfl
  obtain ⟨fd__law_plus, F__law_plus⟩ := c.def_ 24 (d := ⟨("_law_plus", none), "_law_plus", "_law_plus", defArgs s__law_plus, defBody s__law_plus, defScope s__law_plus, [], []⟩) rfl
  obtain ⟨fd__law_added, F__law_added⟩ := c.def_ 25 (d := ⟨("_law_added", none), "_law_added", "_law_added", defArgs s__law_added, defBody s__law_added, defScope s__law_added, [], []⟩) rfl
  obtain ⟨fd__law_weighted, F__law_weighted⟩ := c.def_ 26 (d := ⟨("_law_weighted", none), "_law_weighted", "_law_weighted", defArgs s__law_weighted, defBody s__law_weighted, defScope s__law_weighted, [], []⟩) rfl
  obtain ⟨fd__law_program, F__law_program⟩ := c.def_ 27 (d := ⟨("_law_program", none), "_law_program", "_law_program", defArgs s__law_program, defBody s__law_program, defScope s__law_program, [], []⟩) rfl
  obtain ⟨fd__law_good, F__law_good⟩ := c.def_ 28 (d := ⟨("_law_good", none), "_law_good", "_law_good", defArgs s__law_good, defBody s__law_good, defScope s__law_good, [], []⟩) rfl
  obtain ⟨fd__law_lists, F__law_lists⟩ := c.def_ 29 (d := ⟨("_law_lists", none), "_law_lists", "_law_lists", defArgs s__law_lists, defBody s__law_lists, defScope s__law_lists, [], []⟩) rfl
  obtain ⟨fd__law_worth, F__law_worth⟩ := c.def_ 30 (d := ⟨("_law_worth", none), "_law_worth", "_law_worth", defArgs s__law_worth, defBody s__law_worth, defScope s__law_worth, [], []⟩) rfl
  obtain ⟨fd__law_fit, F__law_fit⟩ := c.def_ 31 (d := ⟨("_law_fit", none), "_law_fit", "_law_fit", defArgs s__law_fit, defBody s__law_fit, defScope s__law_fit, [], []⟩) rfl
  obtain ⟨fd__law_bound, F__law_bound⟩ := c.def_ 32 (d := ⟨("_law_bound", none), "_law_bound", "_law_bound", defArgs s__law_bound, defBody s__law_bound, defScope s__law_bound, [], []⟩) rfl
  obtain ⟨fd__law_shows_none, F__law_shows_none⟩ := c.def_ 33 (d := ⟨("_law_shows_none", none), "_law_shows_none", "_law_shows_none", defArgs s__law_shows_none, defBody s__law_shows_none, defScope s__law_shows_none, [], []⟩) rfl
  obtain ⟨fd__law_closes, F__law_closes⟩ := c.def_ 34 (d := ⟨("_law_closes", none), "_law_closes", "_law_closes", defArgs s__law_closes, defBody s__law_closes, defScope s__law_closes, [], []⟩) rfl
  obtain ⟨fd__law_some, F__law_some⟩ := c.def_ 35 (d := ⟨("_law_some", none), "_law_some", "_law_some", defArgs s__law_some, defBody s__law_some, defScope s__law_some, [], []⟩) rfl
  obtain ⟨fd__law_refused, F__law_refused⟩ := c.def_ 36 (d := ⟨("_law_refused", none), "_law_refused", "_law_refused", defArgs s__law_refused, defBody s__law_refused, defScope s__law_refused, [], []⟩) rfl
  obtain ⟨fd_Program___init__, F_Program___init__⟩ := c.def_ 37 (d := ⟨("Program", some "__init__"), "__init__", "Program.__init__", defArgs s_Program___init__, defBody s_Program___init__, defScope s_Program___init__, [], []⟩) rfl
  obtain ⟨fd__law_refusals, F__law_refusals⟩ := c.def_ 38 (d := ⟨("_law_refusals", none), "_law_refusals", "_law_refusals", defArgs s__law_refusals, defBody s__law_refusals, defScope s__law_refusals, [], []⟩) rfl
  obtain ⟨fd__law_true, F__law_true⟩ := c.def_ 39 (d := ⟨("_law_true", none), "_law_true", "_law_true", defArgs s__law_true, defBody s__law_true, defScope s__law_true, [], []⟩) rfl
  obtain ⟨fd_law, F_law⟩ := c.def_ 40 (d := ⟨("law", none), "law", "law", defArgs s_law, defBody s_law, defScope s_law, [], []⟩) rfl
  obtain ⟨xI, xe1, xe2⟩ := init_of (P := PySem.Challenge.pw_trunkweb_k65_bounds_under_fixings) (mg := mg) ei (c.fact 65) (c.fact 66) (He.free_ok X G (c.fact 64)) (by kernel_rfl) rfl rfl (fun _ _ _ _ _ _ _ _ _ => rfl) (fun _ _ _ _ => ⟨_, rfl⟩)
  let T : Tp PySem.Challenge.pw_trunkweb_k65_bounds_under_fixings K mg := {
    xi := xI
    gc_root := by rw [xe1]; exact He.glo_ok X G (c.fact 63)
    c_OutOfRange := He.ga K "OutOfRange"
    gc_OutOfRange := glo_at X G (c.fact 67) (nth_mem 0 rfl)
    c_TooMany := He.ga K "TooMany"
    gc_TooMany := glo_at X G (c.fact 67) (nth_mem 1 rfl)
    c_ZeroDivisor := He.ga K "ZeroDivisor"
    gc_ZeroDivisor := glo_at X G (c.fact 67) (nth_mem 2 rfl)
    c_BadRelation := He.ga K "BadRelation"
    gc_BadRelation := glo_at X G (c.fact 67) (nth_mem 3 rfl)
    c_WrongSize := He.ga K "WrongSize"
    gc_WrongSize := glo_at X G (c.fact 67) (nth_mem 4 rfl)
    c_BadFixing := He.ga K "BadFixing"
    gc_BadFixing := glo_at X G (c.fact 67) (nth_mem 5 rfl)
    ex := by rw [xe1, xe2]; exact cls_at X G (c.fact 67) (c.fact 68)
    exm := by rw [xe1]; exact exm_at X G (c.fact 67) (c.fact 69)
    is := is_at X G (c.fact 67) (c.fact 70)
    c_Program := He.ga K "Program"
    g_Program := He.glo_ok X G (c.fact 41)
    cl_Program := He.cls_ok (c.fact 42)
    na_Program__prices := He.noat_ok (c.fact 43)
    na_Program__rows := He.noat_ok (c.fact 44)
    a_fraction := He.ga K "fraction"
    fd_fraction := fd_fraction
    F_fraction := F_fraction
    g_fraction := He.glo_ok X G (c.fact 0)
    b_fraction := FunD.bindsN F_fraction fun _ _ _ _ _ _ us hl => match us, hl with | [_, _], _ => rfl
    a_plus := He.ga K "plus"
    fd_plus := fd_plus
    F_plus := F_plus
    g_plus := He.glo_ok X G (c.fact 1)
    b_plus := FunD.bindsN F_plus fun _ _ _ _ _ _ us hl => match us, hl with | [_, _], _ => rfl
    a_minus := He.ga K "minus"
    fd_minus := fd_minus
    F_minus := F_minus
    g_minus := He.glo_ok X G (c.fact 2)
    b_minus := FunD.bindsN F_minus fun _ _ _ _ _ _ us hl => match us, hl with | [_, _], _ => rfl
    a_is_less := He.ga K "is_less"
    fd_is_less := fd_is_less
    F_is_less := F_is_less
    g_is_less := He.glo_ok X G (c.fact 3)
    b_is_less := FunD.bindsN F_is_less fun _ _ _ _ _ _ us hl => match us, hl with | [_, _], _ => rfl
    a_ceiling := He.ga K "ceiling"
    fd_ceiling := fd_ceiling
    F_ceiling := F_ceiling
    g_ceiling := He.glo_ok X G (c.fact 4)
    b_ceiling := FunD.bindsN F_ceiling fun _ _ _ _ _ _ us hl => match us, hl with | [_], _ => rfl
    a_added := He.ga K "added"
    fd_added := fd_added
    F_added := F_added
    g_added := He.glo_ok X G (c.fact 5)
    b_added := FunD.bindsN F_added fun _ _ _ _ _ _ us hl => match us, hl with | [_], _ => rfl
    a_weighted := He.ga K "weighted"
    fd_weighted := fd_weighted
    F_weighted := F_weighted
    g_weighted := He.glo_ok X G (c.fact 6)
    b_weighted := FunD.bindsN F_weighted fun _ _ _ _ _ _ us hl => match us, hl with | [_, _], _ => rfl
    a_Program_rows := He.ma K (He.ga K "Program") "rows"
    fd_Program_rows := fd_Program_rows
    F_Program_rows := F_Program_rows
    b_Program_rows := FunD.bindsN F_Program_rows fun _ _ _ _ _ _ us hl => match us, hl with | [_], _ => rfl
    me_Program_rows := He.meth_ok (c.fact 7)
    a_are_fit := He.ga K "are_fit"
    fd_are_fit := fd_are_fit
    F_are_fit := F_are_fit
    g_are_fit := He.glo_ok X G (c.fact 8)
    b_are_fit := FunD.bindsN F_are_fit fun _ _ _ _ _ _ us hl => match us, hl with | [_, _], _ => rfl
    a_check_multipliers := He.ga K "check_multipliers"
    fd_check_multipliers := fd_check_multipliers
    F_check_multipliers := F_check_multipliers
    g_check_multipliers := He.glo_ok X G (c.fact 9)
    b_check_multipliers := FunD.bindsN F_check_multipliers fun _ _ _ _ _ _ us hl => match us, hl with | [_, _], _ => rfl
    a_Program_count := He.ma K (He.ga K "Program") "count"
    fd_Program_count := fd_Program_count
    F_Program_count := F_Program_count
    b_Program_count := FunD.bindsN F_Program_count fun _ _ _ _ _ _ us hl => match us, hl with | [_], _ => rfl
    me_Program_count := He.meth_ok (c.fact 10)
    a_loads := He.ga K "loads"
    fd_loads := fd_loads
    F_loads := F_loads
    g_loads := He.glo_ok X G (c.fact 11)
    b_loads := FunD.bindsN F_loads fun _ _ _ _ _ _ us hl => match us, hl with | [_, _], _ => rfl
    a_gain := He.ga K "gain"
    fd_gain := fd_gain
    F_gain := F_gain
    g_gain := He.glo_ok X G (c.fact 12)
    b_gain := FunD.bindsN F_gain fun _ _ _ _ _ _ us hl => match us, hl with | [_, _], _ => rfl
    a_check_program := He.ga K "check_program"
    fd_check_program := fd_check_program
    F_check_program := F_check_program
    g_check_program := He.glo_ok X G (c.fact 13)
    b_check_program := FunD.bindsN F_check_program fun _ _ _ _ _ _ us hl => match us, hl with | [_], _ => rfl
    a_check_fixing := He.ga K "check_fixing"
    fd_check_fixing := fd_check_fixing
    F_check_fixing := F_check_fixing
    g_check_fixing := He.glo_ok X G (c.fact 14)
    b_check_fixing := FunD.bindsN F_check_fixing fun _ _ _ _ _ _ us hl => match us, hl with | [_, _], _ => rfl
    a_least_part := He.ga K "least_part"
    fd_least_part := fd_least_part
    F_least_part := F_least_part
    g_least_part := He.glo_ok X G (c.fact 15)
    b_least_part := FunD.bindsN F_least_part fun _ _ _ _ _ _ us hl => match us, hl with | [_, _, _], _ => rfl
    a_bound_of := He.ga K "bound_of"
    fd_bound_of := fd_bound_of
    F_bound_of := F_bound_of
    g_bound_of := He.glo_ok X G (c.fact 16)
    b_bound_of := FunD.bindsN F_bound_of fun _ _ _ _ _ _ us hl => match us, hl with | [_, _, _, _], _ => rfl
    a_Program_prices := He.ma K (He.ga K "Program") "prices"
    fd_Program_prices := fd_Program_prices
    F_Program_prices := F_Program_prices
    b_Program_prices := FunD.bindsN F_Program_prices fun _ _ _ _ _ _ us hl => match us, hl with | [_], _ => rfl
    me_Program_prices := He.meth_ok (c.fact 17)
    a_case_bound := He.ga K "case_bound"
    fd_case_bound := fd_case_bound
    F_case_bound := F_case_bound
    g_case_bound := He.glo_ok X G (c.fact 18)
    b_case_bound := FunD.bindsN F_case_bound fun _ _ _ _ _ _ us hl => match us, hl with | [_, _, _], _ => rfl
    a_shows_none := He.ga K "shows_none"
    fd_shows_none := fd_shows_none
    F_shows_none := F_shows_none
    g_shows_none := He.glo_ok X G (c.fact 19)
    b_shows_none := FunD.bindsN F_shows_none fun _ _ _ _ _ _ us hl => match us, hl with | [_, _, _], _ => rfl
    a_first_list := He.ga K "first_list"
    fd_first_list := fd_first_list
    F_first_list := F_first_list
    g_first_list := He.glo_ok X G (c.fact 20)
    b_first_list := FunD.bindsN F_first_list fun _ _ _ _ _ _ us hl => match us, hl with | [_], _ => rfl
    a_closes := He.ga K "closes"
    fd_closes := fd_closes
    F_closes := F_closes
    g_closes := He.glo_ok X G (c.fact 21)
    b_closes := FunD.bindsN F_closes fun _ _ _ _ _ _ us hl => match us, hl with | [_, _, _, _, _], _ => rfl
    a__law_numbers := He.ga K "_law_numbers"
    fd__law_numbers := fd__law_numbers
    F__law_numbers := F__law_numbers
    g__law_numbers := He.glo_ok X G (c.fact 22)
    b__law_numbers := FunD.bindsN F__law_numbers fun _ _ _ _ _ _ us hl => match us, hl with | [_, _], _ => rfl
    a__law_lowest := He.ga K "_law_lowest"
    fd__law_lowest := fd__law_lowest
    F__law_lowest := F__law_lowest
    g__law_lowest := He.glo_ok X G (c.fact 23)
    b__law_lowest := FunD.bindsN F__law_lowest fun _ _ _ _ _ _ us hl => match us, hl with | [_, _], _ => rfl
    a__law_plus := He.ga K "_law_plus"
    fd__law_plus := fd__law_plus
    F__law_plus := F__law_plus
    g__law_plus := He.glo_ok X G (c.fact 24)
    b__law_plus := FunD.bindsN F__law_plus fun _ _ _ _ _ _ us hl => match us, hl with | [_, _], _ => rfl
    a__law_added := He.ga K "_law_added"
    fd__law_added := fd__law_added
    F__law_added := F__law_added
    g__law_added := He.glo_ok X G (c.fact 25)
    b__law_added := FunD.bindsN F__law_added fun _ _ _ _ _ _ us hl => match us, hl with | [_], _ => rfl
    a__law_weighted := He.ga K "_law_weighted"
    fd__law_weighted := fd__law_weighted
    F__law_weighted := F__law_weighted
    g__law_weighted := He.glo_ok X G (c.fact 26)
    b__law_weighted := FunD.bindsN F__law_weighted fun _ _ _ _ _ _ us hl => match us, hl with | [_, _], _ => rfl
    a__law_program := He.ga K "_law_program"
    fd__law_program := fd__law_program
    F__law_program := F__law_program
    g__law_program := He.glo_ok X G (c.fact 27)
    b__law_program := FunD.bindsN F__law_program fun _ _ _ _ _ _ us hl => match us, hl with | [_, _, _, _], _ => rfl
    a__law_good := He.ga K "_law_good"
    fd__law_good := fd__law_good
    F__law_good := F__law_good
    g__law_good := He.glo_ok X G (c.fact 28)
    b__law_good := FunD.bindsN F__law_good fun _ _ _ _ _ _ us hl => match us, hl with | [_, _], _ => rfl
    a__law_lists := He.ga K "_law_lists"
    fd__law_lists := fd__law_lists
    F__law_lists := F__law_lists
    g__law_lists := He.glo_ok X G (c.fact 29)
    b__law_lists := FunD.bindsN F__law_lists fun _ _ _ _ _ _ us hl => match us, hl with | [_], _ => rfl
    a__law_worth := He.ga K "_law_worth"
    fd__law_worth := fd__law_worth
    F__law_worth := F__law_worth
    g__law_worth := He.glo_ok X G (c.fact 30)
    b__law_worth := FunD.bindsN F__law_worth fun _ _ _ _ _ _ us hl => match us, hl with | [_, _], _ => rfl
    a__law_fit := He.ga K "_law_fit"
    fd__law_fit := fd__law_fit
    F__law_fit := F__law_fit
    g__law_fit := He.glo_ok X G (c.fact 31)
    b__law_fit := FunD.bindsN F__law_fit fun _ _ _ _ _ _ us hl => match us, hl with | [_, _], _ => rfl
    a__law_bound := He.ga K "_law_bound"
    fd__law_bound := fd__law_bound
    F__law_bound := F__law_bound
    g__law_bound := He.glo_ok X G (c.fact 32)
    b__law_bound := FunD.bindsN F__law_bound fun _ _ _ _ _ _ us hl => match us, hl with | [_, _, _, _], _ => rfl
    a__law_shows_none := He.ga K "_law_shows_none"
    fd__law_shows_none := fd__law_shows_none
    F__law_shows_none := F__law_shows_none
    g__law_shows_none := He.glo_ok X G (c.fact 33)
    b__law_shows_none := FunD.bindsN F__law_shows_none fun _ _ _ _ _ _ us hl => match us, hl with | [_, _, _, _], _ => rfl
    a__law_closes := He.ga K "_law_closes"
    fd__law_closes := fd__law_closes
    F__law_closes := F__law_closes
    g__law_closes := He.glo_ok X G (c.fact 34)
    b__law_closes := FunD.bindsN F__law_closes fun _ _ _ _ _ _ us hl => match us, hl with | [_, _, _, _, _, _], _ => rfl
    a__law_some := He.ga K "_law_some"
    fd__law_some := fd__law_some
    F__law_some := F__law_some
    g__law_some := He.glo_ok X G (c.fact 35)
    b__law_some := FunD.bindsN F__law_some fun _ _ _ _ _ _ us hl => match us, hl with | [_, _, _], _ => rfl
    a__law_refused := He.ga K "_law_refused"
    fd__law_refused := fd__law_refused
    F__law_refused := F__law_refused
    g__law_refused := He.glo_ok X G (c.fact 36)
    b__law_refused := FunD.bindsN F__law_refused fun _ _ _ _ _ _ us hl => match us, hl with | [_, _, _, _], _ => rfl
    a_Program___init__ := He.ma K (He.ga K "Program") "__init__"
    fd_Program___init__ := fd_Program___init__
    F_Program___init__ := F_Program___init__
    b_Program___init__ := FunD.bindsN F_Program___init__ fun _ _ _ _ _ _ us hl => match us, hl with | [_, _, _], _ => rfl
    mk_Program := He.mkr_ok (c.fact 37)
    a__law_refusals := He.ga K "_law_refusals"
    fd__law_refusals := fd__law_refusals
    F__law_refusals := F__law_refusals
    g__law_refusals := He.glo_ok X G (c.fact 38)
    b__law_refusals := FunD.bindsN F__law_refusals fun _ _ _ _ _ _ us hl => match us, hl with | [_, _, _, _], _ => rfl
    a__law_true := He.ga K "_law_true"
    fd__law_true := fd__law_true
    F__law_true := F__law_true
    g__law_true := He.glo_ok X G (c.fact 39)
    b__law_true := FunD.bindsN F__law_true fun _ _ _ _ _ _ us hl => match us, hl with | [_, _, _, _, _, _], _ => rfl
    a_law := He.ga K "law"
    fd_law := fd_law
    F_law := F_law
    g_law := He.glo_ok X G (c.fact 40)
    b_law := FunD.bindsN F_law fun _ _ _ _ _ _ us hl => match us, hl with | [_], _ => rfl
    k_MOST_ROWS := He.int_ok X G (c.fact 45)
    k_MOST_VARIABLES_bounds := He.int_ok X G (c.fact 46)
    k_MOST_VARIABLES_program := He.int_ok X G (c.fact 47)
    a_RELATIONS := He.ga K "RELATIONS"
    g_RELATIONS := He.glo_ok X G (c.fact 48)
    d_RELATIONS := fun F => ⟨_, _, rfl, He.tupB_ok (c.fact 49) F, ⟨_, _, rfl, rfl, ⟨_, _, rfl, rfl, ⟨_, _, rfl, rfl, rfl⟩⟩⟩⟩
    a_ZERO := He.ga K "ZERO"
    g_ZERO := He.glo_ok X G (c.fact 50)
    d_ZERO := fun F => ⟨_, _, rfl, He.tupB_ok (c.fact 51) F, ⟨_, _, rfl, rfl, ⟨_, _, rfl, rfl, rfl⟩⟩⟩
    z_abs := He.free_ok X G (c.fact 52)
    z_all := He.free_ok X G (c.fact 53)
    z_gcd := bltB_ok X G (c.fact 54)
    z_int := He.free_ok X G (c.fact 55)
    z_isinstance := He.free_ok X G (c.fact 56)
    z_len := He.free_ok X G (c.fact 57)
    z_list := He.free_ok X G (c.fact 58)
    z_range := He.free_ok X G (c.fact 59)
    z_repr := He.free_ok X G (c.fact 60)
    z_sum := He.free_ok X G (c.fact 61)
    z_zip := He.free_ok X G (c.fact 62)
  }
  have e := hfa.symm.trans T.g_law
  cases e
  exact ⟨fd_law, fun s v => FunD.bindsA (ps := ["_law_script"]) F_law (fun _ _ _ _ _ _ us hl => match us, hl with | [_], _ => rfl) s [v] rfl, fun base _ _ => ok_law T⟩
end M
open PySem PySem.W PySem.Calls PyProof.Rows
set_option maxHeartbeats 0 in
theorem PySem.Challenge.cw_trunkweb_k65_bounds_under_fixings_holds : PySem.Challenge.rw_trunkweb_k65_bounds_under_fixings.Holds := by
  w_on; o_law; k_head; (case hw => w_witness2)
  k_fill
  refine DL.walk_top (l := PySem.Challenge.rw_trunkweb_k65_bounds_under_fixings) (n := 63) (x := "_law_script") (CX := L2.CX0) rfl (by decide) (by kernel_rfl) ?F (fun _ _ _ _ z => z)
  case F =>
    intro w mg fa h Y G hmg
    have KX := PySem.W.kIn_of Y
    obtain ⟨fd, hb, hF⟩ := M.facts (w := w) KX G hmg (show DL.obsX M.qsX M.fnX _ = He.valD M.fnX by kernel_rfl) (by kernel_rfl)
    exact ⟨_, fd, DL.spD _ mg DL.X0 [.sc] .fr M.m_law, KX, hb, fun H a ns hl _ hS => DL.law_end (M.law_true ns hl) hS, hF⟩
end
