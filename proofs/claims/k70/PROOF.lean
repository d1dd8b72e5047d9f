import PyProof.Rows.All
import HandS.ForMost
import HandS.Wide
import HandS.Gcd
import HandS.SortInts
import HandS.Flow
import HandS.Style
import HandS.Deep
import HandS.TupAny
import KE.KSortedM
import HandS.Steps
import HandS.Conv
import HandS.Defaults
import HandS.Head0
import HandS.Head1
import HandS.Head2
import HandS.HeadEnd
import HandS.HeadHook1
import HandS.HeadHook2
import HandS.ExcInit
import HandS.Codes
import KE.KExcSuper
import HandS.ExcField
import HandS.ExcIs
import HandS.ExcOwn
import KE.KExcIs
import HandS.Iter
import HandS.Zip
import PyProof.ReprLen
import PyProof.Rows.ReprOcc
import PySem.Challenge.RW_trunkweb_k70_checks_of_shares
import Wide.All
import OpenK.AllK
import Wide.FinOn
set_option Elab.async false
set_option linter.all false
/-! text DL0 -/
section
set_option maxRecDepth 100000
set_option maxHeartbeats 4000000
/-! the data layer, part 0: data, modes, what represents what -/
namespace DL
open PySem PySem.Spec PyProof.Rows L2

inductive DV where
  | non | bl (b : Bool) | int (i : Int) | str (x : Str)
  | tup (ds : List DV) | lst (ds : List DV)
  | dct (ks : List Key) (ds : List DV)
  | obj (c : Str) (ns : List Str) (ds : List DV)

abbrev EnvD := List (Option DV)
inductive Rs (α : Type) where
  | ok (a : α) | ex (c : Str) (d : DV) | stuck
@[reducible] def Rs.bind {α β : Type} (r : Rs α) (f : α → Rs β) : Rs β := match r with
  | .ok a => f a
  | .ex c d => .ex c d
  | .stuck => .stuck
inductive Out where
  | nx (ρ : EnvD) | rt (d : DV) (ρ : EnvD) | bk (ρ : EnvD) | ct (ρ : EnvD) | ex (c : Str) (d : DV) | stuck
theorem bind_ok {α β : Type} {r : Rs α} {f : α → Rs β} {b : β} (h : r.bind f = .ok b) : ∃ a, r = .ok a ∧ f a = .ok b := by
  cases r with
  | ok a => exact ⟨a, rfl, h⟩
  | ex c d => cases h
  | stuck => cases h

/-- modes: frozen, borrowed (ahead of the call), peeked, owned list or dict, tuple of .., owned object, peeked object -/
inductive Md where
  | fr | bo | sc | pk (m : Md) | own (m : Md) | tu (m : Md) | ob (m : Md) | po (m : Md)
  deriving DecidableEq
@[reducible] def Md.stor : Md → Bool
  | .fr => true
  | .bo => true
  | .sc => true
  | .pk _ => false
  | .own m => m.stor
  | .tu m => m.stor
  | .ob m => m.stor
  | .po _ => false
@[reducible] def Md.peek : Md → Md
  | .fr => .fr
  | .bo => .bo
  | .sc => .sc
  | .pk m => .pk m.peek
  | .own m => .pk m.peek
  | .tu m => .tu m.peek
  | .ob m => .po m.peek
  | .po m => .po m.peek
@[reducible] def Md.kid : Md → Md
  | .fr => .fr
  | .bo => .bo
  | .sc => .fr
  | .pk m => m
  | .own m => m
  | .tu m => m
  | .ob m => m
  | .po m => m
/-- is it data that DA reads -/
@[reducible] def Md.rd : Md → Bool
  | .fr => true
  | .bo => true
  | .sc => false
  | .pk m => m.rd
  | .own m => m.rd
  | .tu m => m.rd
  | .ob m => m.rd
  | .po m => m.rd
/-- no place of it is owned -/
@[reducible] def Md.free : Md → Bool
  | .fr => true
  | .bo => true
  | .sc => true
  | .pk m => m.free
  | .own _ => false
  | .tu m => m.free
  | .ob _ => false
  | .po m => m.free

structure Cxt where
  K : PySem.W.Frag
  mg : Str → Option Value
  Bp : Hp
  F0 : Hp
  io : List (Nat × V × Md)

mutual
def DA (K : PySem.W.Frag) (mg : Str → Option Value) (F : Hp) : DV → V → Prop
  | .non, v => v = .non
  | .bl b, v => v = .bl b
  | .int i, v => v = .int i
  | .str x, v => v = .str x
  | .tup ds, v => ∃ a vs, v = .ref a ∧ SqT K F a vs ∧ DAs K mg F ds vs
  | .lst ds, v => ∃ a vs, v = .ref a ∧ Rd F a (.lst vs) ∧ DAs K mg F ds vs
  | .dct ks ds, v => ∃ a vs, v = .ref a ∧ (F a = some (.dK (ks.zip vs)) ∧ ks.length = vs.length) ∧ DAs K mg F ds vs
  | .obj c ns ds, v => ∃ a vs, v = .ref a ∧ (∃ C dx, mg c = some (.ref C) ∧ F a = some (.ins C dx (ns.zip vs)) ∧ ns.length = vs.length) ∧ DAs K mg F ds vs
def DAs (K : PySem.W.Frag) (mg : Str → Option Value) (F : Hp) : List DV → List V → Prop
  | [], vs => vs = []
  | d :: ds, vs => ∃ v r, vs = v :: r ∧ DA K mg F d v ∧ DAs K mg F ds r
end

def kids : DV → List DV
  | .tup ds => ds
  | .lst ds => ds
  | .dct _ ds => ds
  | .obj _ _ ds => ds
  | _ => []
/-- the node of a list, a dict, an instance -/
def Node (mg : Str → Option Value) (d : DV) (vs : List V) (o : HO) : Prop := match d with
  | .lst _ => o = .lst vs
  | .dct ks _ => o = .dK (ks.zip vs) ∧ ks.length = vs.length
  | .obj c ns _ => ∃ C dx, mg c = some (.ref C) ∧ o = .ins C dx (ns.zip vs) ∧ ns.length = vs.length
  | _ => False
/-- such a node that is read -/
def RdNode (K : PySem.W.Frag) (mg : Str → Option Value) (H : Hp) (a : Addr) (d : DV) (vs : List V) : Prop := match d with
  | .lst _ => Rd H a (.lst vs)
  | .dct ks _ => H a = some (.dK (ks.zip vs)) ∧ ks.length = vs.length
  | .obj c ns _ => ∃ C dx, mg c = some (.ref C) ∧ H a = some (.ins C dx (ns.zip vs)) ∧ ns.length = vs.length
  | _ => False
def isLD : DV → Bool
  | .lst _ => true
  | .dct _ _ => true
  | _ => false
def isObj : DV → Bool
  | .obj _ _ _ => true
  | _ => false
def isTup : DV → Bool
  | .tup _ => true
  | _ => false
/-- is this data's node of the kind that this mode speaks of -/
def Md.on : Md → DV → Bool
  | .own _, d => isLD d
  | .pk _, d => isLD d
  | .tu _, d => isTup d
  | .ob _, d => isObj d
  | .po _, d => isObj d
  | _, _ => false

def Alls (R : DV → V → List Addr → Prop) : List DV → List V → List Addr → Prop
  | [], vs, fp => vs = [] ∧ fp = []
  | d :: ds, vs, fp => ∃ v r f1 f2, vs = v :: r ∧ fp = f1 ++ f2 ∧ R d v f1 ∧ Alls R ds r f2

/-- v stands for the data d in this mode; fp: the owned addresses -/
def At (C : Cxt) (F H : Hp) : Md → DV → V → List Addr → Prop
  | .fr, d, v, fp => fp = [] ∧ DA C.K C.mg F d v
  | .bo, d, v, fp => fp = [] ∧ DA C.K C.mg C.Bp d v
  | .sc, d, v, fp => fp = [] ∧ ∃ (a : Addr) (ns : List Int), v = .ref a ∧ d = .lst (ns.map DV.int) ∧ SqL C.K F a (ns.map V.int)
  | .pk m, d, v, fp => if isLD d = true then ∃ a vs, v = .ref a ∧ RdNode C.K C.mg H a d vs ∧ Alls (At C F H m) (kids d) vs fp else fp = [] ∧ DA C.K C.mg F d v
  | .po m, d, v, fp => if isObj d = true then ∃ a vs, v = .ref a ∧ RdNode C.K C.mg H a d vs ∧ Alls (At C F H m) (kids d) vs fp else fp = [] ∧ DA C.K C.mg F d v
  | .own m, d, v, fp => if isLD d = true then ∃ a vs o fc, v = .ref a ∧ F a = none ∧ C.Bp a = none ∧ H a = some o ∧ Node C.mg d vs o ∧ fp = a :: fc ∧ Alls (At C F H m) (kids d) vs fc else fp = [] ∧ DA C.K C.mg F d v
  | .ob m, d, v, fp => if isObj d = true then ∃ a vs o fc, v = .ref a ∧ F a = none ∧ C.Bp a = none ∧ H a = some o ∧ Node C.mg d vs o ∧ fp = a :: fc ∧ Alls (At C F H m) (kids d) vs fc else fp = [] ∧ DA C.K C.mg F d v
  | .tu m, d, v, fp => if isTup d = true then ∃ a vs, v = .ref a ∧ SqT C.K F a vs ∧ Alls (At C F H m) (kids d) vs fp else fp = [] ∧ DA C.K C.mg F d v

/-! ### heaps -/
theorem same_rd {H H' : Hp} {a : Addr} {u : HO} (e : Same H H') (h : Rd H a u) : Rd H' a u := by
  rcases h with h | ⟨o, h⟩
  · exact .inl (e _ _ h)
  · exact .inr ⟨o, e _ _ h⟩
theorem same_sqt {K : PySem.W.Frag} {H H' : Hp} {a : Addr} {xs : List V} (e : Same H H') (h : SqT K H a xs) : SqT K H' a xs := by
  rcases h with (h | ⟨o, h⟩) | h
  · exact .inl (.inl (e _ _ h))
  · exact .inl (.inr ⟨o, e _ _ h⟩)
  · exact .inr h
theorem same_upd {H : Hp} {p : Addr} {o : HO} (h : H p = none) : Same H (upd H p o) := fun b x e => by
  rw [upd_ne (ne_of_none e h)]
  exact e
theorem Same.none' {H H' : Hp} (e : Same H H') {a : Addr} (h : H' a = none) : H a = none := e.free h

/-! ### frozen data -/
section
variable {K : PySem.W.Frag} {mg : Str → Option Value} {F F' : Hp}
mutual
theorem DA.mono (e : Same F F') : ∀ (d : DV) (v : V), DA K mg F d v → DA K mg F' d v
  | .non, _, h => h
  | .bl _, _, h => h
  | .int _, _, h => h
  | .str _, _, h => h
  | .tup ds, _, ⟨a, vs, h1, h2, h3⟩ => ⟨a, vs, h1, same_sqt e h2, DAs.mono e ds vs h3⟩
  | .lst ds, _, ⟨a, vs, h1, h2, h3⟩ => ⟨a, vs, h1, same_rd e h2, DAs.mono e ds vs h3⟩
  | .dct _ ds, _, ⟨a, vs, h1, ⟨h2, h4⟩, h3⟩ => ⟨a, vs, h1, ⟨e _ _ h2, h4⟩, DAs.mono e ds vs h3⟩
  | .obj _ _ ds, _, ⟨a, vs, h1, ⟨C, dx, g, h2, h4⟩, h3⟩ => ⟨a, vs, h1, ⟨C, dx, g, e _ _ h2, h4⟩, DAs.mono e ds vs h3⟩
theorem DAs.mono (e : Same F F') : ∀ (ds : List DV) (vs : List V), DAs K mg F ds vs → DAs K mg F' ds vs
  | [], _, h => h
  | d :: ds, _, ⟨v, r, h1, h2, h3⟩ => ⟨v, r, h1, DA.mono e d v h2, DAs.mono e ds r h3⟩
end
theorem DAs.length : ∀ {ds : List DV} {vs : List V}, DAs K mg F ds vs → ds.length = vs.length
  | [], _, h => by cases h; rfl
  | d :: ds, _, ⟨v, r, h1, _, h3⟩ => by
    subst h1
    rw [List.length_cons, List.length_cons, DAs.length h3]
theorem DAs.get : ∀ {ds : List DV} {vs : List V} {i : Nat} {d : DV}, DAs K mg F ds vs → ds[i]? = some d → ∃ v, vs[i]? = some v ∧ DA K mg F d v
  | [], _, i, d, _, e => by simp at e
  | d :: ds, _, 0, _, ⟨v, r, h1, h2, _⟩, e => by
    subst h1
    simp at e
    subst e
    exact ⟨v, rfl, h2⟩
  | d :: ds, _, i + 1, _, ⟨v, r, h1, _, h3⟩, e => by
    subst h1
    exact DAs.get h3 (i := i) (by simpa using e)
end

/-! ### Alls -/
section
variable {R R' : DV → V → List Addr → Prop}
theorem Alls.length : ∀ {ds : List DV} {vs : List V} {fp : List Addr}, Alls R ds vs fp → ds.length = vs.length
  | [], _, _, h => by cases h.1; rfl
  | d :: ds, _, _, ⟨v, r, f1, f2, h1, _, _, h3⟩ => by
    subst h1
    rw [List.length_cons, List.length_cons, Alls.length h3]
theorem Alls.imp : ∀ {ds : List DV} {vs : List V} {fp : List Addr}, Alls R ds vs fp → (∀ d v f, (∀ a ∈ f, a ∈ fp) → R d v f → R' d v f) → Alls R' ds vs fp
  | [], _, _, h, _ => h
  | d :: ds, _, _, ⟨v, r, f1, f2, h1, h2, h3, h4⟩, k => ⟨v, r, f1, f2, h1, h2, k d v f1 (fun a ha => by rw [h2]; exact List.mem_append_left _ ha) h3,
      Alls.imp h4 fun d v f hf => k d v f fun a ha => by rw [h2]; exact List.mem_append_right _ (hf a ha)⟩
/-- footprints forgotten -/
theorem Alls.pt : ∀ {ds : List DV} {vs : List V} {fp : List Addr}, Alls R ds vs fp → (∀ d v f, R d v f → R' d v []) → Alls R' ds vs []
  | [], _, _, h, _ => ⟨h.1, rfl⟩
  | d :: ds, _, _, ⟨v, r, f1, f2, h1, h2, h3, h4⟩, k => ⟨v, r, [], [], h1, rfl, k d v f1 h3, Alls.pt h4 k⟩
theorem Alls.das {K : PySem.W.Frag} {mg : Str → Option Value} {F : Hp} : ∀ {ds : List DV} {vs : List V} {fp : List Addr}, Alls R ds vs fp → (∀ d v f, (∀ a ∈ f, a ∈ fp) → R d v f → DA K mg F d v) → DAs K mg F ds vs
  | [], _, _, h, _ => h.1
  | d :: ds, _, _, ⟨v, r, f1, f2, h1, h2, h3, h4⟩, k => ⟨v, r, h1, k d v f1 (fun a ha => by rw [h2]; exact List.mem_append_left _ ha) h3,
      Alls.das h4 fun d v f hf => k d v f fun a ha => by rw [h2]; exact List.mem_append_right _ (hf a ha)⟩
theorem Alls.of_das {K : PySem.W.Frag} {mg : Str → Option Value} {F : Hp} : ∀ {ds : List DV} {vs : List V}, DAs K mg F ds vs → (∀ d v, DA K mg F d v → R d v []) → Alls R ds vs []
  | [], _, h, _ => ⟨h, rfl⟩
  | d :: ds, _, ⟨v, r, h1, h2, h3⟩, k => ⟨v, r, [], [], h1, rfl, k d v h2, Alls.of_das h3 k⟩
theorem Alls.nil_fp : ∀ {ds : List DV} {vs : List V} {fp : List Addr}, Alls R ds vs fp → (∀ d v f, R d v f → f = []) → fp = []
  | [], _, _, h, _ => h.2
  | d :: ds, _, _, ⟨v, r, f1, f2, h1, h2, h3, h4⟩, k => by rw [h2, k d v f1 h3, Alls.nil_fp h4 k]; rfl
theorem Alls.get : ∀ {ds : List DV} {vs : List V} {fp : List Addr} {i : Nat} {d : DV}, Alls R ds vs fp → ds[i]? = some d → ∃ v f, vs[i]? = some v ∧ R d v f ∧ ∀ a ∈ f, a ∈ fp
  | [], _, _, i, d, _, e => by simp at e
  | d :: ds, _, _, 0, _, ⟨v, r, f1, f2, h1, h2, h3, _⟩, e => by
    subst h1
    simp at e
    subst e
    exact ⟨v, f1, rfl, h3, fun a ha => by rw [h2]; exact List.mem_append_left _ ha⟩
  | d :: ds, _, _, i + 1, _, ⟨v, r, f1, f2, h1, h2, _, h4⟩, e => by
    subst h1
    obtain ⟨w, f, e1, e2, e3⟩ := Alls.get h4 (i := i) (by simpa using e)
    exact ⟨w, f, by simpa using e1, e2, fun a ha => by rw [h2]; exact List.mem_append_right _ (e3 a ha)⟩
theorem Alls.append : ∀ {ds es : List DV} {vs ws : List V} {f g : List Addr}, Alls R ds vs f → Alls R es ws g → Alls R (ds ++ es) (vs ++ ws) (f ++ g)
  | [], _, _, _, _, _, h, k => by rw [h.1, h.2]; exact k
  | d :: ds, _, _, _, _, _, ⟨v, r, f1, f2, h1, h2, h3, h4⟩, k => ⟨v, _, f1, f2 ++ _, by rw [h1]; rfl, by rw [h2, List.append_assoc], h3, Alls.append h4 k⟩
theorem Alls.one {d : DV} {v : V} {f : List Addr} (h : R d v f) : Alls R [d] [v] f := ⟨v, [], f, [], rfl, by rw [List.append_nil], h, rfl, rfl⟩
end

/-! ### At -/
section
variable {C : Cxt} {F F' H H' : Hp}
theorem RdNode.mono {K : PySem.W.Frag} {mg : Str → Option Value} {a : Addr} {d : DV} {vs : List V} (e : Same H H') (h : RdNode K mg H a d vs) : RdNode K mg H' a d vs := by
  cases d with
  | lst ds => exact same_rd e h
  | dct ks ds => exact ⟨e _ _ h.1, h.2⟩
  | obj c ns ds => obtain ⟨C, dx, g, h1, h2⟩ := h; exact ⟨C, dx, g, e _ _ h1, h2⟩
  | _ => exact h
theorem Node.rd {K : PySem.W.Frag} {mg : Str → Option Value} {a : Addr} {d : DV} {vs : List V} {o : HO} (h : Node mg d vs o) (e : H a = some o) : RdNode K mg H a d vs := by
  cases d with
  | lst ds => obtain rfl : o = .lst vs := h; exact .inl e
  | dct ks ds => obtain ⟨rfl, l⟩ := h; exact ⟨e, l⟩
  | obj c ns ds => obtain ⟨C, dx, g, rfl, l⟩ := h; exact ⟨C, dx, g, e, l⟩
  | _ => exact h
theorem RdNode.da {K : PySem.W.Frag} {mg : Str → Option Value} {a : Addr} {d : DV} {vs : List V} (h : RdNode K mg H a d vs) (k : DAs K mg H (kids d) vs) : DA K mg H d (.ref a) := by
  cases d with
  | lst ds => exact ⟨a, vs, rfl, h, k⟩
  | dct ks ds => exact ⟨a, vs, rfl, h, k⟩
  | obj c ns ds => exact ⟨a, vs, rfl, h, k⟩
  | _ => exact h.elim

theorem At.mono : ∀ {m : Md} {d : DV} {v : V} {fp : List Addr}, At C F H m d v fp → Same F F' → (∀ a ∈ fp, F' a = none) → (∀ a ∈ fp, H' a = H a) → (m.stor = true ∨ Same H H') → At C F' H' m d v fp := by
  intro m
  induction m with
  | fr => intro d v fp h e _ _ _; exact ⟨h.1, DA.mono e _ _ h.2⟩
  | bo => intro d v fp h e _ _ _; exact h
  | sc => intro d v fp ⟨h, a, ns, h1, h2, h3⟩ e _ _ _; exact ⟨h, a, ns, h1, h2, e.seq h3⟩
  | pk m ih =>
    intro d v fp h e n k s
    have s : Same H H' := by
      rcases s with s | s
      · cases s
      · exact s
    unfold At at h ⊢
    split at h
    · rename_i q
      rw [if_pos q]
      obtain ⟨a, vs, h1, h2, h3⟩ := h
      exact ⟨a, vs, h1, h2.mono s, h3.imp fun d v f hf x => ih x e (fun a ha => n a (hf a ha)) (fun a ha => k a (hf a ha)) (.inr s)⟩
    · rename_i q
      rw [if_neg q]
      exact ⟨h.1, DA.mono e _ _ h.2⟩
  | po m ih =>
    intro d v fp h e n k s
    have s : Same H H' := by
      rcases s with s | s
      · cases s
      · exact s
    unfold At at h ⊢
    split at h
    · rename_i q
      rw [if_pos q]
      obtain ⟨a, vs, h1, h2, h3⟩ := h
      exact ⟨a, vs, h1, h2.mono s, h3.imp fun d v f hf x => ih x e (fun a ha => n a (hf a ha)) (fun a ha => k a (hf a ha)) (.inr s)⟩
    · rename_i q
      rw [if_neg q]
      exact ⟨h.1, DA.mono e _ _ h.2⟩
  | own m ih =>
    intro d v fp h e n k s
    unfold At at h ⊢
    split at h
    · rename_i q
      rw [if_pos q]
      obtain ⟨a, vs, o, fc, h1, h2, h3, h4, h5, h6, h7⟩ := h
      subst h6
      exact ⟨a, vs, o, fc, h1, n a List.mem_cons_self, h3, (k a List.mem_cons_self).trans h4, h5, rfl, h7.imp fun d v f hf x => ih x e (fun a ha => n a (List.mem_cons_of_mem _ (hf a ha))) (fun a ha => k a (List.mem_cons_of_mem _ (hf a ha))) s⟩
    · rename_i q
      rw [if_neg q]
      exact ⟨h.1, DA.mono e _ _ h.2⟩
  | ob m ih =>
    intro d v fp h e n k s
    unfold At at h ⊢
    split at h
    · rename_i q
      rw [if_pos q]
      obtain ⟨a, vs, o, fc, h1, h2, h3, h4, h5, h6, h7⟩ := h
      subst h6
      exact ⟨a, vs, o, fc, h1, n a List.mem_cons_self, h3, (k a List.mem_cons_self).trans h4, h5, rfl, h7.imp fun d v f hf x => ih x e (fun a ha => n a (List.mem_cons_of_mem _ (hf a ha))) (fun a ha => k a (List.mem_cons_of_mem _ (hf a ha))) s⟩
    · rename_i q
      rw [if_neg q]
      exact ⟨h.1, DA.mono e _ _ h.2⟩
  | tu m ih =>
    intro d v fp h e n k s
    unfold At at h ⊢
    split at h
    · rename_i q
      rw [if_pos q]
      obtain ⟨a, vs, h1, h2, h3⟩ := h
      exact ⟨a, vs, h1, same_sqt e h2, h3.imp fun d v f hf x => ih x e (fun a ha => n a (hf a ha)) (fun a ha => k a (hf a ha)) s⟩
    · rename_i q
      rw [if_neg q]
      exact ⟨h.1, DA.mono e _ _ h.2⟩

/-- what it stands for, read at H -/
theorem At.da (s : Same F H) (b : Same C.Bp H) : ∀ {m : Md} {d : DV} {v : V} {fp : List Addr}, m.rd = true → At C F H m d v fp → DA C.K C.mg H d v := by
  intro m
  induction m with
  | fr => intro d v fp _ h; exact DA.mono s _ _ h.2
  | bo => intro d v fp _ h; exact DA.mono b _ _ h.2
  | sc => intro d v fp q; cases q
  | pk m ih | po m ih =>
    intro d v fp q h
    unfold At at h
    split at h
    · obtain ⟨a, vs, rfl, h2, h3⟩ := h
      exact h2.da (h3.das fun d v f _ x => ih q x)
    · exact DA.mono s _ _ h.2
  | own m ih | ob m ih =>
    intro d v fp q h
    unfold At at h
    split at h
    · obtain ⟨a, vs, o, fc, rfl, h2, h3, h4, h5, h6, h7⟩ := h
      exact (h5.rd h4).da (h7.das fun d v f _ x => ih q x)
    · exact DA.mono s _ _ h.2
  | tu m ih =>
    intro d v fp q0 h
    unfold At at h
    split at h
    · rename_i q
      cases d with
      | tup ds =>
        obtain ⟨a, vs, rfl, h2, h3⟩ := h
        exact ⟨a, vs, rfl, same_sqt s h2, h3.das fun d v f _ x => ih q0 x⟩
      | _ => cases q
    · exact DA.mono s _ _ h.2
theorem At.free_nil : ∀ {m : Md} {d : DV} {v : V} {fp : List Addr}, m.free = true → At C F H m d v fp → fp = [] := by
  intro m
  induction m with
  | fr => intro d v fp _ h; exact h.1
  | bo => intro d v fp _ h; exact h.1
  | sc => intro d v fp _ h; exact h.1
  | pk m ih | po m ih | tu m ih =>
    intro d v fp q h
    unfold At at h
    split at h
    · obtain ⟨a, vs, _, _, h3⟩ := h
      exact h3.nil_fp fun d v f x => ih q x
    · exact h.1
  | own m ih | ob m ih => intro d v fp q; cases q
theorem At.peek : ∀ {m : Md} {d : DV} {v : V} {fp : List Addr}, At C F H m d v fp → At C F H m.peek d v [] := by
  intro m
  induction m with
  | fr => intro d v fp h; exact ⟨rfl, h.2⟩
  | bo => intro d v fp h; exact ⟨rfl, h.2⟩
  | sc => intro d v fp h; exact ⟨rfl, h.2⟩
  | pk m ih | po m ih | tu m ih =>
    intro d v fp h
    unfold At at h
    unfold Md.peek At
    split at h
    · rename_i q
      rw [if_pos q]
      obtain ⟨a, vs, h1, h2, h3⟩ := h
      exact ⟨a, vs, h1, h2, h3.pt fun d v f x => ih x⟩
    · rename_i q
      rw [if_neg q]
      exact ⟨rfl, h.2⟩
  | own m ih | ob m ih =>
    intro d v fp h
    unfold At at h
    unfold Md.peek At
    split at h
    · rename_i q
      rw [if_pos q]
      obtain ⟨a, vs, o, fc, h1, h2, h3, h4, h5, h6, h7⟩ := h
      exact ⟨a, vs, h1, h5.rd h4, h7.pt fun d v f x => ih x⟩
    · rename_i q
      rw [if_neg q]
      exact ⟨rfl, h.2⟩
end
end DL
end

/-! text DL1 -/
section
set_option maxRecDepth 100000
set_option maxHeartbeats 4000000
/-! the data layer, part 1: the state and what a reading simulates -/
namespace DL
open PySem PySem.Spec PyProof.Rows L2

abbrev Ent := Md × DV × V
def SlotAt (C : Cxt) (F H : Hp) (m : Md) (s : Option V) (r : Option DV) (f : List Addr) : Prop := match r with
  | none => f = []
  | some d => ∃ v, s = some v ∧ At C F H m d v f
def Slots (C : Cxt) (F H : Hp) : List Md → L2.St → EnvD → List Addr → Prop
  | [], [], [], fp => fp = []
  | m :: Γ, s :: σ, r :: ρ, fp => ∃ f1 f2, fp = f1 ++ f2 ∧ SlotAt C F H m s r f1 ∧ Slots C F H Γ σ ρ f2
  | _, _, _, _ => False
def Exs (C : Cxt) (F H : Hp) : List Ent → List Addr → Prop
  | [], fp => fp = []
  | (m, d, v) :: L, fp => ∃ f1 f2, fp = f1 ++ f2 ∧ At C F H m d v f1 ∧ Exs C F H L f2

/-- a tuple, locked or not -/
def tupO : HO → Bool
  | .tup _ => true
  | .frz _ (.tup _) => true
  | _ => false
structure Fit (C : Cxt) (F H : Hp) : Prop where
  ff : Same C.F0 F
  fh : Same F H
  bh : Same C.Bp H
  f0 : ∀ a, F a ≠ none → C.F0 a ≠ none ∨ C.Bp a = none ∨ ∃ o, C.Bp a = some o ∧ tupO o = true
  tp : ∀ a o, H a = some o → tupO o = true → F a = some o
structure Rep (C : Cxt) (F H : Hp) (Γ : List Md) (σ : L2.St) (ρ : EnvD) (L : List Ent) : Prop where
  fit : Fit C F H
  io : ∀ p ∈ C.io, σ[p.1]? = some (some p.2.1) ∧ Γ[p.1]? = some p.2.2
  own : ∃ f1 f2, (f1 ++ f2).Nodup ∧ Slots C F H Γ σ ρ f1 ∧ Exs C F H L f2

section
variable {C : Cxt} {F F' H H' : Hp} {Γ Γ' : List Md} {σ σ' : L2.St} {ρ ρ' : EnvD} {L L' : List Ent} {m m' : Md} {d : DV} {v : V} {fp : List Addr}

/-- something else than a tuple is laid -/
theorem Fit.alloc (e : Fit C F H) (s : Same H H') (nt : ∀ a o, H' a = some o → tupO o = true → H a = some o) : Fit C F H' := ⟨e.ff, e.fh.trans s, e.bh.trans s, e.f0, fun a o h q => e.tp a o (nt a o h q) q⟩
/-- tuples that H holds are frozen -/
def allT (F H : Hp) : Hp := fun a => match H a with
  | some o => if tupO o = true then some o else F a
  | none => F a
theorem allT_same (s : Same F H) : Same F (allT F H) := fun a o e => by
  have h := s a o e
  unfold allT
  rw [h]
  show (if tupO o = true then some o else F a) = some o
  split
  · rfl
  · exact e
theorem allT_le (s : Same F H) : Same (allT F H) H := fun a o e => by
  unfold allT at e
  split at e
  · rename_i u h
    split at e
    · rw [h]; exact e
    · exact s a o e
  · exact s a o e
theorem allT_tp {a : Addr} {o : HO} (h : H a = some o) (q : tupO o = true) : allT F H a = some o := by
  unfold allT
  rw [h]
  exact if_pos q
theorem allT_out {a : Addr} (h : ∀ o, H a = some o → tupO o = false) : allT F H a = F a := by
  unfold allT
  split
  · rename_i o e
    rw [h o e]
    rfl
  · rfl

theorem Slots.mono : ∀ {Γ : List Md} {σ : L2.St} {ρ : EnvD} {fp : List Addr}, Slots C F H Γ σ ρ fp → Same F F' → (∀ a ∈ fp, F' a = none) → (∀ a ∈ fp, H' a = H a) → (Γ.all Md.stor = true ∨ Same H H') → Slots C F' H' Γ σ ρ fp
  | [], [], [], _, h, _, _, _, _ => h
  | m :: Γ, s :: σ, r :: ρ, _, ⟨f1, f2, h1, h2, h3⟩, e, n, k, z => by
    subst h1
    have z1 : m.stor = true ∨ Same H H' := z.imp_left fun z => (Bool.and_eq_true _ _ ▸ (show (m.stor && Γ.all Md.stor) = true from z)).1
    have z2 : Γ.all Md.stor = true ∨ Same H H' := z.imp_left fun z => (Bool.and_eq_true _ _ ▸ (show (m.stor && Γ.all Md.stor) = true from z)).2
    refine ⟨f1, f2, rfl, ?_, Slots.mono h3 e (fun a ha => n a (List.mem_append_right _ ha)) (fun a ha => k a (List.mem_append_right _ ha)) z2⟩
    cases r with
    | none => exact h2
    | some d =>
      obtain ⟨v, h4, h5⟩ := h2
      exact ⟨v, h4, h5.mono e (fun a ha => n a (List.mem_append_left _ ha)) (fun a ha => k a (List.mem_append_left _ ha)) z1⟩
theorem Exs.mono : ∀ {L : List Ent} {fp : List Addr}, Exs C F H L fp → Same F F' → (∀ a ∈ fp, F' a = none) → (∀ a ∈ fp, H' a = H a) → (L.all (fun e => e.1.stor) = true ∨ Same H H') → Exs C F' H' L fp
  | [], _, h, _, _, _, _ => h
  | (m, d, v) :: L, _, ⟨f1, f2, h1, h2, h3⟩, e, n, k, z => by
    subst h1
    have z1 : m.stor = true ∨ Same H H' := z.imp_left fun z => (Bool.and_eq_true _ _ ▸ (show (m.stor && L.all fun e => e.1.stor) = true from z)).1
    have z2 : (L.all fun e => e.1.stor) = true ∨ Same H H' := z.imp_left fun z => (Bool.and_eq_true _ _ ▸ (show (m.stor && L.all fun e => e.1.stor) = true from z)).2
    exact ⟨f1, f2, rfl, h2.mono e (fun a ha => n a (List.mem_append_left _ ha)) (fun a ha => k a (List.mem_append_left _ ha)) z1, Exs.mono h3 e (fun a ha => n a (List.mem_append_right _ ha)) (fun a ha => k a (List.mem_append_right _ ha)) z2⟩
/-- owned addresses are there, and neither frozen nor of before -/
theorem Alls.each {R : DV → V → List Addr → Prop} {P : Addr → Prop} : ∀ {ds : List DV} {vs : List V} {fp : List Addr}, Alls R ds vs fp → (∀ d v f, R d v f → ∀ a ∈ f, P a) → ∀ a ∈ fp, P a
  | [], _, _, h, _, a, ha => by rw [h.2] at ha; cases ha
  | d :: ds, _, _, ⟨v, r, f1, f2, h1, h2, h3, h4⟩, k, a, ha => by
    rw [h2] at ha
    rcases List.mem_append.mp ha with ha | ha
    · exact k d v f1 h3 a ha
    · exact Alls.each h4 k a ha
def Owned (C : Cxt) (F H : Hp) (a : Addr) : Prop := F a = none ∧ C.Bp a = none ∧ ∃ o, H a = some o ∧ Mut (some o)
theorem Node.mut {mg : Str → Option Value} {d : DV} {vs : List V} {o : HO} (h : Node mg d vs o) : Mut (some o) := by
  cases d with
  | lst ds => obtain rfl : o = .lst vs := h; trivial
  | dct ks ds => obtain ⟨rfl, _⟩ := h; trivial
  | obj c ns ds => obtain ⟨C, dx, _, rfl, _⟩ := h; trivial
  | _ => exact h.elim
theorem At.owned : ∀ {m : Md} {d : DV} {v : V} {fp : List Addr}, At C F H m d v fp → ∀ a ∈ fp, Owned C F H a := by
  intro m
  induction m with
  | fr => intro d v fp h a ha; rw [h.1] at ha; cases ha
  | bo => intro d v fp h a ha; rw [h.1] at ha; cases ha
  | sc => intro d v fp h a ha; rw [h.1] at ha; cases ha
  | pk m ih | po m ih | tu m ih =>
    intro d v fp h
    unfold At at h
    split at h
    · obtain ⟨a, vs, _, _, h3⟩ := h
      exact h3.each fun d v f x => ih x
    · intro a ha; rw [h.1] at ha; cases ha
  | own m ih | ob m ih =>
    intro d v fp h
    unfold At at h
    split at h
    · obtain ⟨a, vs, o, fc, h1, h2, h3, h4, h5, h6, h7⟩ := h
      intro b hb
      rw [h6] at hb
      rcases List.mem_cons.mp hb with hb | hb
      · rw [hb]; exact ⟨h2, h3, o, h4, h5.mut⟩
      · exact h7.each (fun d v f x => ih x) b hb
    · intro a ha; rw [h.1] at ha; cases ha
theorem Slots.owned : ∀ {Γ : List Md} {σ : L2.St} {ρ : EnvD} {fp : List Addr}, Slots C F H Γ σ ρ fp → ∀ a ∈ fp, Owned C F H a
  | [], [], [], _, h, a, ha => by rw [show _ = _ from h] at ha; cases ha
  | m :: Γ, s :: σ, r :: ρ, _, ⟨f1, f2, h1, h2, h3⟩, a, ha => by
    subst h1
    rcases List.mem_append.mp ha with ha | ha
    · cases r with
      | none => rw [show f1 = [] from h2] at ha; cases ha
      | some d => obtain ⟨v, _, h5⟩ := h2; exact h5.owned a ha
    · exact Slots.owned h3 a ha
theorem Exs.owned : ∀ {L : List Ent} {fp : List Addr}, Exs C F H L fp → ∀ a ∈ fp, Owned C F H a
  | [], _, h, a, ha => by rw [show _ = _ from h] at ha; cases ha
  | (m, d, v) :: L, _, ⟨f1, f2, h1, h2, h3⟩, a, ha => by
    subst h1
    rcases List.mem_append.mp ha with ha | ha
    · exact h2.owned a ha
    · exact Exs.owned h3 a ha

/-- new objects laid -/
theorem Rep.alloc (r : Rep C F H Γ σ ρ L) (s : Same H H') (nt : ∀ a o, H' a = some o → tupO o = true → H a = some o) : Rep C F H' Γ σ ρ L := by
  obtain ⟨f1, f2, nd, a, b⟩ := r.own
  have oa := a.owned
  have ob := b.owned
  refine ⟨r.fit.alloc s nt, r.io, f1, f2, nd, a.mono (Same.refl _) (fun x hx => (oa x hx).1) (fun x hx => ?_) (.inr s), b.mono (Same.refl _) (fun x hx => (ob x hx).1) (fun x hx => ?_) (.inr s)⟩
  · obtain ⟨_, _, o, e, _⟩ := oa x hx
    rw [e]; exact s _ _ e
  · obtain ⟨_, _, o, e, _⟩ := ob x hx
    rw [e]; exact s _ _ e
/-- an entry with nothing owned comes -/
theorem Rep.cons0 (r : Rep C F H Γ σ ρ L) (h : At C F H m d v []) : Rep C F H Γ σ ρ ((m, d, v) :: L) := by
  obtain ⟨f1, f2, nd, a, b⟩ := r.own
  exact ⟨r.fit, r.io, f1, f2, nd, a, [], f2, rfl, h, b⟩
/-- the first entry goes -/
theorem Rep.tail {e : Ent} (r : Rep C F H Γ σ ρ (e :: L)) : Rep C F H Γ σ ρ L := by
  obtain ⟨f1, f2, nd, a, g1, g2, h1, h2, h3⟩ := r.own
  subst h1
  refine ⟨r.fit, r.io, f1, g2, ?_, a, h3⟩
  exact nd.sublist (List.Sublist.append (List.Sublist.refl _) (List.sublist_append_right _ _))
theorem Rep.head (r : Rep C F H Γ σ ρ ((m, d, v) :: L)) : ∃ f, At C F H m d v f := by
  obtain ⟨f1, f2, nd, a, g1, g2, h1, h2, h3⟩ := r.own
  exact ⟨g1, h2⟩
theorem Rep.da (r : Rep C F H Γ σ ρ ((m, d, v) :: L)) (q : m.rd = true) : DA C.K C.mg H d v := by
  obtain ⟨f, h⟩ := r.head
  exact h.da r.fit.fh r.fit.bh q
theorem Rep.fr (r : Rep C F H Γ σ ρ ((.fr, d, v) :: L)) : DA C.K C.mg F d v := by
  obtain ⟨f, h⟩ := r.head
  exact h.2
theorem Rep.free (r : Rep C F H Γ σ ρ ((m, d, v) :: L)) (q : m.free = true) : At C F H m d v [] := by
  obtain ⟨f, h⟩ := r.head
  have e := h.free_nil q
  rw [e] at h
  exact h
/-- the first entry is owned from here on in another mode (or less) -/
theorem Rep.turn (r : Rep C F H Γ σ ρ ((m, d, v) :: L)) (h : ∀ f, At C F H m d v f → ∃ g, g.Sublist f ∧ At C F H m' d v g) : Rep C F H Γ σ ρ ((m', d, v) :: L) := by
  obtain ⟨f1, f2, nd, a, g1, g2, h1, h2, h3⟩ := r.own
  subst h1
  obtain ⟨g, s, h4⟩ := h _ h2
  exact ⟨r.fit, r.io, f1, g ++ g2, nd.sublist (List.Sublist.append (List.Sublist.refl _) (List.Sublist.append s (List.Sublist.refl _))), a, g, g2, rfl, h4, h3⟩
theorem Rep.peek (r : Rep C F H Γ σ ρ ((m, d, v) :: L)) : Rep C F H Γ σ ρ ((m.peek, d, v) :: L) := r.turn fun f h => ⟨[], List.nil_sublist _, h.peek⟩
theorem Rep.swap {a b : Ent} (r : Rep C F H Γ σ ρ (a :: b :: L)) : Rep C F H Γ σ ρ (b :: a :: L) := by
  obtain ⟨f1, f2, nd, s, g1, g2, h1, h2, g3, g4, h3, h4, h5⟩ := r.own
  subst h1
  subst h3
  refine ⟨r.fit, r.io, f1, g3 ++ (g1 ++ g4), ?_, s, g3, g1 ++ g4, rfl, h4, g1, g4, rfl, h2, h5⟩
  refine List.Perm.nodup (l := f1 ++ (g1 ++ (g3 ++ g4))) ?_ nd
  refine List.Perm.append (List.Perm.refl _) ?_
  rw [← List.append_assoc, ← List.append_assoc]
  exact List.Perm.append List.perm_append_comm (List.Perm.refl _)

/-! ### slots -/
theorem Slots.get : ∀ {Γ : List Md} {σ : L2.St} {ρ : EnvD} {fp : List Addr} {i : Nat} {m : Md} {d : DV}, Slots C F H Γ σ ρ fp → Γ[i]? = some m → ρ[i]? = some (some d) → ∃ v f, σ[i]? = some (some v) ∧ At C F H m d v f
  | [], [], [], _, i, _, _, _, h, _ => by simp at h
  | m :: Γ, s :: σ, r :: ρ, _, 0, m', d, ⟨f1, f2, h1, h2, h3⟩, e1, e2 => by
    simp at e1 e2
    subst e1
    subst e2
    obtain ⟨v, h4, h5⟩ := h2
    exact ⟨v, f1, by rw [h4]; rfl, h5⟩
  | m :: Γ, s :: σ, r :: ρ, _, i + 1, m', d, ⟨f1, f2, h1, h2, h3⟩, e1, e2 => by
    obtain ⟨v, f, h4, h5⟩ := Slots.get h3 (i := i) (by simpa using e1) (by simpa using e2)
    exact ⟨v, f, by simpa using h4, h5⟩
theorem Rep.get {i : Nat} (r : Rep C F H Γ σ ρ L) (e1 : Γ[i]? = some m) (e2 : ρ[i]? = some (some d)) : ∃ v f, σ[i]? = some (some v) ∧ At C F H m d v f := by
  obtain ⟨f1, f2, nd, a, b⟩ := r.own
  exact a.get e1 e2
/-- the slot i gets the entry, its old one is dropped -/
theorem Slots.put {m : Md} {d : DV} {v : V} {g : List Addr} (hg : At C F H m d v g) : ∀ {Γ : List Md} {σ : L2.St} {ρ : EnvD} {fp : List Addr} {i : Nat}, Slots C F H Γ σ ρ fp → i < Γ.length →
    ∃ x y z, fp = x ++ (y ++ z) ∧ Slots C F H (Γ.set i m) (σ.set i (some v)) (ρ.set i (some d)) (x ++ (g ++ z))
  | [], [], [], _, i, h, l => by simp at l
  | m1 :: Γ, s :: σ, r :: ρ, _, 0, ⟨f1, f2, h1, h2, h3⟩, _ => ⟨[], f1, f2, h1, g, f2, rfl, ⟨v, rfl, hg⟩, h3⟩
  | m1 :: Γ, s :: σ, r :: ρ, _, i + 1, ⟨f1, f2, h1, h2, h3⟩, l => by
    obtain ⟨x, y, z, h4, h5⟩ := Slots.put hg (i := i) h3 (by simpa using l)
    exact ⟨f1 ++ x, y, z, by rw [h1, h4, List.append_assoc], f1, x ++ (g ++ z), by rw [List.append_assoc], h2, h5⟩
theorem Slots.len : ∀ {Γ : List Md} {σ : L2.St} {ρ : EnvD} {fp : List Addr}, Slots C F H Γ σ ρ fp → σ.length = Γ.length ∧ ρ.length = Γ.length
  | [], [], [], _, _ => ⟨rfl, rfl⟩
  | m :: Γ, s :: σ, r :: ρ, _, ⟨f1, f2, h1, h2, h3⟩ => by
    obtain ⟨a, b⟩ := Slots.len h3
    exact ⟨by rw [List.length_cons, List.length_cons, a], by rw [List.length_cons, List.length_cons, b]⟩
theorem perm3 {α : Type} (a b c d e : List α) : List.Perm ((a ++ (b ++ c)) ++ (d ++ e)) (b ++ ((a ++ (d ++ c)) ++ e)) := by
  have h1 : List.Perm (a ++ (b ++ c)) (b ++ (a ++ c)) := by
    rw [← List.append_assoc, ← List.append_assoc]
    exact List.Perm.append List.perm_append_comm (List.Perm.refl _)
  have h2 : List.Perm ((a ++ c) ++ d) (a ++ (d ++ c)) := by
    rw [List.append_assoc]
    exact List.Perm.append (List.Perm.refl _) List.perm_append_comm
  have h3 := List.Perm.append h1 (List.Perm.refl (d ++ e))
  refine h3.trans ?_
  rw [List.append_assoc b]
  refine List.Perm.append (List.Perm.refl _) ?_
  rw [← List.append_assoc]
  exact List.Perm.append h2 (List.Perm.refl _)
theorem Rep.put {i : Nat} (r : Rep C F H Γ σ ρ ((m, d, v) :: L)) (l : i < Γ.length) (hio : ∀ p ∈ C.io, p.1 ≠ i) : Rep C F H (Γ.set i m) (σ.set i (some v)) (ρ.set i (some d)) L := by
  obtain ⟨f1, f2, nd, a, g1, g2, h1, h2, h3⟩ := r.own
  subst h1
  obtain ⟨x, y, z, h4, h5⟩ := a.put h2 l
  subst h4
  refine ⟨r.fit, fun p hp => ?_, x ++ (g1 ++ z), g2, ?_, h5, h3⟩
  · rw [List.getElem?_set_ne (Ne.symm (hio p hp)), List.getElem?_set_ne (Ne.symm (hio p hp))]
    exact r.io p hp
  · exact (((perm3 x y z g1 g2).nodup nd)).sublist (List.sublist_append_right _ _)
/-- the slot is forgotten -/
theorem Slots.drop : ∀ {Γ : List Md} {σ : L2.St} {ρ : EnvD} {fp : List Addr} {i : Nat} (s : Option V), Slots C F H Γ σ ρ fp → ∃ x y z, fp = x ++ (y ++ z) ∧ Slots C F H Γ (σ.set i s) (ρ.set i none) (x ++ z)
  | [], [], [], _, i, s, h => ⟨[], [], [], h, rfl⟩
  | m1 :: Γ, s1 :: σ, r :: ρ, _, 0, s, ⟨f1, f2, h1, h2, h3⟩ => ⟨[], f1, f2, h1, [], f2, rfl, rfl, h3⟩
  | m1 :: Γ, s1 :: σ, r :: ρ, _, i + 1, s, ⟨f1, f2, h1, h2, h3⟩ => by
    obtain ⟨x, y, z, h4, h5⟩ := Slots.drop (i := i) s h3
    exact ⟨f1 ++ x, y, z, by rw [h1, h4, List.append_assoc], f1, x ++ z, by rw [List.append_assoc], h2, h5⟩

/-! ### freezing -/
def frz (fp : List Addr) (F H : Hp) : Hp := fun a => if a ∈ fp then H a else F a
theorem frz_same (n : ∀ a ∈ fp, F a = none) : Same F (frz fp F H) := fun a o e => by
  unfold frz
  split
  · rename_i h
    rw [n a h] at e
    cases e
  · exact e
theorem frz_le (s : Same F H) : Same (frz fp F H) H := fun a o e => by
  unfold frz at e
  split at e
  · exact e
  · exact s _ _ e
theorem frz_out {a : Addr} (h : a ∉ fp) : frz fp F H a = F a := by
  unfold frz
  rw [if_neg h]
/-- may it be frozen -/
@[reducible] def _root_.DL.Md.fz : Md → Bool
  | .fr => true
  | .own m => m.fz
  | .tu m => m.fz
  | .ob m => m.fz
  | _ => false
theorem At.frz : ∀ {m : Md} {d : DV} {v : V} {fp : List Addr}, m.fz = true → At C F H m d v fp → Same F F' → (∀ a ∈ fp, F' a = H a) → DA C.K C.mg F' d v := by
  intro m
  induction m with
  | fr => intro d v fp _ h e _; exact DA.mono e _ _ h.2
  | bo => intro d v fp q; cases q
  | sc => intro d v fp q; cases q
  | pk m ih | po m ih => intro d v fp q; cases q
  | tu m ih =>
    intro d v fp q h e k
    unfold At at h
    split at h
    · rename_i z
      cases d with
      | tup ds =>
        obtain ⟨a, vs, rfl, h2, h3⟩ := h
        exact ⟨a, vs, rfl, same_sqt e h2, h3.das fun d v f hf x => ih q x e fun a ha => k a (hf a ha)⟩
      | _ => cases z
    · exact DA.mono e _ _ h.2
  | own m ih | ob m ih =>
    intro d v fp q h e k
    unfold At at h
    split at h
    · obtain ⟨a, vs, o, fc, rfl, h2, h3, h4, h5, h6, h7⟩ := h
      subst h6
      exact (h5.rd ((k a List.mem_cons_self).trans h4)).da (h7.das fun d v f hf x => ih q x e fun a ha => k a (List.mem_cons_of_mem _ (hf a ha)))
    · exact DA.mono e _ _ h.2
theorem Rep.freeze (r : Rep C F H Γ σ ρ ((m, d, v) :: L)) (q : m.fz = true) : ∃ F', Same F F' ∧ Rep C F' H Γ σ ρ ((.fr, d, v) :: L) := by
  obtain ⟨f1, f2, nd, a, g1, g2, h1, h2, h3⟩ := r.own
  subst h1
  have o2 := h2.owned
  have s1 : Same F (DL.frz g1 F H) := frz_same fun a ha => (o2 a ha).1
  have nd2 := List.nodup_append.mp nd
  have nd3 := List.nodup_append.mp nd2.2.1
  have d1 : ∀ x ∈ f1, x ∉ g1 := fun x hx hy => nd2.2.2 x hx x (List.mem_append_left _ hy) rfl
  have d2 : ∀ x ∈ g2, x ∉ g1 := fun x hx hy => nd3.2.2 x hy x hx rfl
  refine ⟨DL.frz g1 F H, s1, ⟨r.fit.ff.trans s1, frz_le r.fit.fh, r.fit.bh, fun x hx => ?_, fun x o hx q => s1 _ _ (r.fit.tp x o hx q)⟩, r.io, f1, g2, ?_, ?_, [], g2, rfl, ⟨rfl, ?_⟩, ?_⟩
  · by_cases hm : x ∈ g1
    · exact .inr (.inl (o2 x hm).2.1)
    · rw [frz_out hm] at hx
      exact r.fit.f0 x hx
  · exact nd.sublist (List.Sublist.append (List.Sublist.refl _) (List.sublist_append_right _ _))
  · exact a.mono s1 (fun x hx => by rw [frz_out (d1 x hx)]; exact (a.owned x hx).1) (fun _ _ => rfl) (.inr (Same.refl _))
  · exact h2.frz q s1 fun x hx => by unfold DL.frz; rw [if_pos hx]
  · exact h3.mono s1 (fun x hx => by rw [frz_out (d2 x hx)]; exact (h3.owned x hx).1) (fun _ _ => rfl) (.inr (Same.refl _))

/-! ### a slot's entry taken out, laid back -/
theorem Slots.take : ∀ {Γ : List Md} {σ : L2.St} {ρ : EnvD} {fp : List Addr} {i : Nat} {m : Md} {d : DV}, Slots C F H Γ σ ρ fp → Γ[i]? = some m → ρ[i]? = some (some d) →
    ∃ v x y z, σ[i]? = some (some v) ∧ fp = x ++ (y ++ z) ∧ At C F H m d v y ∧ Slots C F H Γ σ (ρ.set i none) (x ++ z)
  | [], [], [], _, i, _, _, _, h, _ => by simp at h
  | m1 :: Γ, s :: σ, r :: ρ, _, 0, m', d, ⟨f1, f2, h1, h2, h3⟩, e1, e2 => by
    simp at e1 e2
    subst e1
    subst e2
    obtain ⟨v, h4, h5⟩ := h2
    exact ⟨v, [], f1, f2, by rw [h4]; rfl, h1, h5, [], f2, rfl, rfl, h3⟩
  | m1 :: Γ, s :: σ, r :: ρ, _, i + 1, m', d, ⟨f1, f2, h1, h2, h3⟩, e1, e2 => by
    obtain ⟨v, x, y, z, h4, h5, h6, h7⟩ := Slots.take h3 (i := i) (by simpa using e1) (by simpa using e2)
    exact ⟨v, f1 ++ x, y, z, by simpa using h4, by rw [h1, h5, List.append_assoc], h6, f1, x ++ z, by rw [List.append_assoc], h2, h7⟩
theorem Rep.take {i : Nat} (r : Rep C F H Γ σ ρ L) (e1 : Γ[i]? = some m) (e2 : ρ[i]? = some (some d)) : ∃ v, σ[i]? = some (some v) ∧ Rep C F H Γ σ (ρ.set i none) ((m, d, v) :: L) := by
  obtain ⟨f1, f2, nd, a, b⟩ := r.own
  obtain ⟨v, x, y, z, h1, h2, h3, h4⟩ := a.take e1 e2
  subst h2
  refine ⟨v, h1, r.fit, r.io, x ++ z, y ++ f2, ?_, h4, y, f2, rfl, h3, b⟩
  refine List.Perm.nodup (l := (x ++ (y ++ z)) ++ f2) ?_ nd
  rw [List.append_assoc, List.append_assoc, List.append_assoc]
  refine List.Perm.append (List.Perm.refl _) ?_
  rw [← List.append_assoc, ← List.append_assoc]
  exact List.Perm.append List.perm_append_comm (List.Perm.refl _)
theorem set_id {α : Type} : ∀ {l : List α} {i : Nat} {x : α}, l[i]? = some x → l.set i x = l
  | [], _, _, _ => rfl
  | a :: l, 0, x, h => by simp at h; rw [h]; rfl
  | a :: l, i + 1, x, h => by
    rw [List.set_cons_succ, set_id (by simpa using h)]
theorem Rep.back {i : Nat} (r : Rep C F H Γ σ ρ ((m, d, v) :: L)) (e : σ[i]? = some (some v)) (hio : Γ[i]? = some m ∨ ∀ p ∈ C.io, p.1 ≠ i) : Rep C F H (Γ.set i m) σ (ρ.set i (some d)) L := by
  obtain ⟨f1, f2, nd, a, g1, g2, h1, h2, h3⟩ := r.own
  subst h1
  have l : i < Γ.length := by
    rw [← a.len.1]
    exact (List.getElem?_eq_some_iff.mp e).1
  obtain ⟨x, y, z, h4, h5⟩ := a.put h2 l
  subst h4
  rw [set_id e] at h5
  have io : ∀ p ∈ C.io, σ[p.1]? = some (some p.2.1) ∧ (Γ.set i m)[p.1]? = some p.2.2 := fun p hp => by
    refine ⟨(r.io p hp).1, ?_⟩
    rcases hio with q | q
    · rw [set_id q]; exact (r.io p hp).2
    · rw [List.getElem?_set_ne (Ne.symm (q p hp))]; exact (r.io p hp).2
  exact ⟨r.fit, io, x ++ (g1 ++ z), g2, (((perm3 x y z g1 g2).nodup nd)).sublist (List.sublist_append_right _ _), h5, h3⟩
theorem set_set' {α : Type} : ∀ {l : List α} {i : Nat} {x y : α}, (l.set i x).set i y = l.set i y
  | [], _, _, _ => rfl
  | a :: l, 0, x, y => rfl
  | a :: l, i + 1, x, y => by
    show a :: ((l.set i x).set i y) = a :: l.set i y
    rw [set_set']
/-- the slot i is frozen, and its data come as an entry -/
theorem Rep.share {i : Nat} (r : Rep C F H Γ σ ρ L) (e1 : Γ[i]? = some m) (e2 : ρ[i]? = some (some d)) (q : m.fz = true) (hio : ∀ p ∈ C.io, p.1 ≠ i) : ∃ v F', σ[i]? = some (some v) ∧ Same F F' ∧ Rep C F' H (Γ.set i .fr) σ ρ ((.fr, d, v) :: L) := by
  obtain ⟨v, h1, r1⟩ := r.take e1 e2
  obtain ⟨F', s, r2⟩ := r1.freeze q
  have r3 : Rep C F' H Γ σ (ρ.set i none) ((.fr, d, v) :: (.fr, d, v) :: L) := r2.cons0 ⟨rfl, r2.fr⟩
  have r4 := r3.back (i := i) h1 (.inr hio)
  rw [set_set', set_id e2] at r4
  exact ⟨v, F', h1, s, r4⟩
/-- the slot's data, peeked -/
theorem Rep.look {i : Nat} (r : Rep C F H Γ σ ρ L) (e1 : Γ[i]? = some m) (e2 : ρ[i]? = some (some d)) : ∃ v, σ[i]? = some (some v) ∧ Rep C F H Γ σ ρ ((m.peek, d, v) :: L) := by
  obtain ⟨v, f, h1, h2⟩ := r.get e1 e2
  exact ⟨v, h1, r.cons0 h2.peek⟩
end

/-! ### what readings simulate -/
/-- the mirror of an expression -/
abbrev GE := EnvD → Rs DV
abbrev GT := EnvD → Rs Bool
abbrev GA := EnvD → Rs (List DV)
abbrev GX := EnvD → Rs (DV × EnvD)
abbrev GS := EnvD → Out
/-- what is wanted of an exception: class, value, heap -/
abbrev Wx := Str → DV → Hp → Prop
def PE' (C : Cxt) (W : Wx) (Γ : List Md) (F H : Hp) (σ : L2.St) (ρ : EnvD) (L : List Ent) (m : Md) (Q : VK) : Rs DV → Prop
  | .ok d => ∀ F' H' v, Same F F' → Same H H' → Rep C F' H' Γ σ ρ ((m, d, v) :: L) → Q v H'
  | .ex c d => ∀ F' H', Same F F' → Same H H' → Fit C F' H' → W c d H'
  | .stuck => False
def PT' (C : Cxt) (W : Wx) (Γ : List Md) (F H : Hp) (σ : L2.St) (ρ : EnvD) (L : List Ent) (Q : Bool → Hp → Prop) : Rs Bool → Prop
  | .ok b => ∀ F' H', Same F F' → Same H H' → Rep C F' H' Γ σ ρ L → Q b H'
  | .ex c d => ∀ F' H', Same F F' → Same H H' → Fit C F' H' → W c d H'
  | .stuck => False
/-- the entries of an argument list, the last one first -/
def entsA : List Md → List DV → List V → List Ent → List Ent
  | m :: ms, d :: ds, v :: vs, L => entsA ms ds vs ((m, d, v) :: L)
  | _, _, _, L => L
def PA' (C : Cxt) (W : Wx) (Γ : List Md) (F H : Hp) (σ : L2.St) (ρ : EnvD) (L : List Ent) (ms : List Md) (Q : List V → Hp → Prop) : Rs (List DV) → Prop
  | .ok ds => ∀ F' H' vs, Same F F' → Same H H' → ds.length = vs.length → ms.length = vs.length → Rep C F' H' Γ σ ρ (entsA ms ds vs L) → Q vs H'
  | .ex c d => ∀ F' H', Same F F' → Same H H' → Fit C F' H' → W c d H'
  | .stuck => False
/-- entries that may be pending -/
def okL (L : List Ent) : Prop := ∀ e ∈ L, e.1.stor = true ∨ e.1.free = true
theorem okL_nil : okL [] := fun _ h => by cases h
theorem okL_cons {e : Ent} {L : List Ent} (h1 : (e.1.stor || e.1.free) = true) (h2 : okL L) : okL (e :: L) := fun x hx => by
  rcases List.mem_cons.mp hx with rfl | hx
  · exact (Bool.or_eq_true _ _).mp h1
  · exact h2 x hx
/-- the reading t gives what g gives, in the mode m -/
def SE (C : Cxt) (W : Wx) (Γ : List Md) (t : TE) (g : GE) (m : Md) : Prop :=
  ∀ F H σ ρ L Q, okL L → Rep C F H Γ σ ρ L → PE' C W Γ F H σ ρ L m Q (g ρ) → t σ H Q
def ST (C : Cxt) (W : Wx) (Γ : List Md) (t : TT) (g : GT) : Prop :=
  ∀ F H σ ρ L Q, okL L → Rep C F H Γ σ ρ L → PT' C W Γ F H σ ρ L Q (g ρ) → t σ H Q
def SA (C : Cxt) (W : Wx) (Γ : List Md) (t : TA) (g : GA) (ms : List Md) : Prop :=
  ∀ F H σ ρ L Q, okL L → Rep C F H Γ σ ρ L → PA' C W Γ F H σ ρ L ms Q (g ρ) → t σ H Q
section
variable {C : Cxt} {W : Wx} {F F' H H' : Hp} {Γ : List Md} {σ : L2.St} {ρ : EnvD} {L : List Ent} {m : Md} {ms : List Md}
theorem PE'.mono {Q : VK} {r : Rs DV} (h : PE' C W Γ F H σ ρ L m Q r) (a : Same F F') (b : Same H H') : PE' C W Γ F' H' σ ρ L m Q r := by
  cases r with
  | ok d => exact fun F2 H2 v s1 s2 => h F2 H2 v (a.trans s1) (b.trans s2)
  | ex c d => exact fun F2 H2 s1 s2 => h F2 H2 (a.trans s1) (b.trans s2)
  | stuck => exact h
theorem PT'.mono {Q : Bool → Hp → Prop} {r : Rs Bool} (h : PT' C W Γ F H σ ρ L Q r) (a : Same F F') (b : Same H H') : PT' C W Γ F' H' σ ρ L Q r := by
  cases r with
  | ok d => exact fun F2 H2 s1 s2 => h F2 H2 (a.trans s1) (b.trans s2)
  | ex c d => exact fun F2 H2 s1 s2 => h F2 H2 (a.trans s1) (b.trans s2)
  | stuck => exact h
theorem PA'.mono {Q : List V → Hp → Prop} {r : Rs (List DV)} (h : PA' C W Γ F H σ ρ L ms Q r) (a : Same F F') (b : Same H H') : PA' C W Γ F' H' σ ρ L ms Q r := by
  cases r with
  | ok d => exact fun F2 H2 v s1 s2 => h F2 H2 v (a.trans s1) (b.trans s2)
  | ex c d => exact fun F2 H2 s1 s2 => h F2 H2 (a.trans s1) (b.trans s2)
  | stuck => exact h
variable {ta : TE} {ga : GE} {tt : TT} {gt : GT} {tl : TA} {gl : GA} {ma : Md}
/-- an expression first, then the rest (of an expression) -/
theorem se_then {f : DV → Rs DV} {L2 : List Ent} {Q : VK} {R : VK} (ha : SE C W Γ ta ga ma) (hL : okL L) (r : Rep C F H Γ σ ρ L) (h : PE' C W Γ F H σ ρ L2 m Q ((ga ρ).bind f))
    (k : ∀ d F1 H1 x, Same F F1 → Same H H1 → Rep C F1 H1 Γ σ ρ ((ma, d, x) :: L) → PE' C W Γ F1 H1 σ ρ L2 m Q (f d) → R x H1) : ta σ H R := by
  refine ha F H σ ρ L R hL r ?_
  revert h
  cases ga ρ with
  | ok d => exact fun h F1 H1 x s1 s2 r1 => k d F1 H1 x s1 s2 r1 (h.mono s1 s2)
  | ex c d => exact fun h => h
  | stuck => exact fun h => h
theorem se_thenT {f : DV → Rs Bool} {L2 : List Ent} {Q : Bool → Hp → Prop} {R : VK} (ha : SE C W Γ ta ga ma) (hL : okL L) (r : Rep C F H Γ σ ρ L) (h : PT' C W Γ F H σ ρ L2 Q ((ga ρ).bind f))
    (k : ∀ d F1 H1 x, Same F F1 → Same H H1 → Rep C F1 H1 Γ σ ρ ((ma, d, x) :: L) → PT' C W Γ F1 H1 σ ρ L2 Q (f d) → R x H1) : ta σ H R := by
  refine ha F H σ ρ L R hL r ?_
  revert h
  cases ga ρ with
  | ok d => exact fun h F1 H1 x s1 s2 r1 => k d F1 H1 x s1 s2 r1 (h.mono s1 s2)
  | ex c d => exact fun h => h
  | stuck => exact fun h => h
theorem se_thenA {f : DV → Rs (List DV)} {L2 : List Ent} {Q : List V → Hp → Prop} {R : VK} (ha : SE C W Γ ta ga ma) (hL : okL L) (r : Rep C F H Γ σ ρ L) (h : PA' C W Γ F H σ ρ L2 ms Q ((ga ρ).bind f))
    (k : ∀ d F1 H1 x, Same F F1 → Same H H1 → Rep C F1 H1 Γ σ ρ ((ma, d, x) :: L) → PA' C W Γ F1 H1 σ ρ L2 ms Q (f d) → R x H1) : ta σ H R := by
  refine ha F H σ ρ L R hL r ?_
  revert h
  cases ga ρ with
  | ok d => exact fun h F1 H1 x s1 s2 r1 => k d F1 H1 x s1 s2 r1 (h.mono s1 s2)
  | ex c d => exact fun h => h
  | stuck => exact fun h => h
theorem st_then {f : Bool → Rs DV} {L2 : List Ent} {Q : VK} {R : Bool → Hp → Prop} (ha : ST C W Γ tt gt) (hL : okL L) (r : Rep C F H Γ σ ρ L) (h : PE' C W Γ F H σ ρ L2 m Q ((gt ρ).bind f))
    (k : ∀ b F1 H1, Same F F1 → Same H H1 → Rep C F1 H1 Γ σ ρ L → PE' C W Γ F1 H1 σ ρ L2 m Q (f b) → R b H1) : tt σ H R := by
  refine ha F H σ ρ L R hL r ?_
  revert h
  cases gt ρ with
  | ok d => exact fun h F1 H1 s1 s2 r1 => k d F1 H1 s1 s2 r1 (h.mono s1 s2)
  | ex c d => exact fun h => h
  | stuck => exact fun h => h
theorem st_thenT {f : Bool → Rs Bool} {L2 : List Ent} {Q : Bool → Hp → Prop} {R : Bool → Hp → Prop} (ha : ST C W Γ tt gt) (hL : okL L) (r : Rep C F H Γ σ ρ L) (h : PT' C W Γ F H σ ρ L2 Q ((gt ρ).bind f))
    (k : ∀ b F1 H1, Same F F1 → Same H H1 → Rep C F1 H1 Γ σ ρ L → PT' C W Γ F1 H1 σ ρ L2 Q (f b) → R b H1) : tt σ H R := by
  refine ha F H σ ρ L R hL r ?_
  revert h
  cases gt ρ with
  | ok d => exact fun h F1 H1 s1 s2 r1 => k d F1 H1 s1 s2 r1 (h.mono s1 s2)
  | ex c d => exact fun h => h
  | stuck => exact fun h => h
theorem sa_then {f : List DV → Rs DV} {L2 : List Ent} {Q : VK} {R : List V → Hp → Prop} (ha : SA C W Γ tl gl ms) (hL : okL L) (r : Rep C F H Γ σ ρ L) (h : PE' C W Γ F H σ ρ L2 m Q ((gl ρ).bind f))
    (k : ∀ ds F1 H1 vs, Same F F1 → Same H H1 → ds.length = vs.length → ms.length = vs.length → Rep C F1 H1 Γ σ ρ (entsA ms ds vs L) → PE' C W Γ F1 H1 σ ρ L2 m Q (f ds) → R vs H1) : tl σ H R := by
  refine ha F H σ ρ L R hL r ?_
  revert h
  cases gl ρ with
  | ok d => exact fun h F1 H1 x s1 s2 e1 e2 r1 => k d F1 H1 x s1 s2 e1 e2 r1 (h.mono s1 s2)
  | ex c d => exact fun h => h
  | stuck => exact fun h => h
end
end DL
end

/-! text DL2 -/
section
set_option maxRecDepth 100000
set_option maxHeartbeats 4000000
/-! the data layer, part 2: expressions -/
namespace DL
open PySem PySem.Spec PyProof.Rows L2

/-! ### data -/
def flat : DV → Option V
  | .non => some .non
  | .bl b => some (.bl b)
  | .int i => some (.int i)
  | .str x => some (.str x)
  | _ => none
mutual
def imm : DV → Bool
  | .tup ds => imms ds
  | .lst _ => false
  | .dct _ _ => false
  | .obj _ _ _ => false
  | .non => true
  | .bl _ => true
  | .int _ => true
  | .str _ => true
def imms : List DV → Bool
  | [] => true
  | d :: ds => imm d && imms ds
end
section
variable {C : Cxt} {W : Wx} {F F' H H' : Hp} {Γ : List Md} {σ : L2.St} {ρ : EnvD} {L : List Ent} {m : Md} {d : DV} {v : V}
theorem flat_da {K : PySem.W.Frag} {mg : Str → Option Value} : ∀ {d : DV} {v : V}, flat d = some v → DA K mg F d v
  | .non, _, h => by cases h; rfl
  | .bl _, _, h => by cases h; rfl
  | .int _, _, h => by cases h; rfl
  | .str _, _, h => by cases h; rfl
  | .tup _, _, h => by cases h
  | .lst _, _, h => by cases h
  | .dct _ _, _, h => by cases h
  | .obj _ _ _, _, h => by cases h
theorem da_flat {K : PySem.W.Frag} {mg : Str → Option Value} : ∀ {d : DV} {v w : V}, flat d = some w → DA K mg F d v → v = w
  | .non, _, _, h, k => by cases h; exact k
  | .bl _, _, _, h, k => by cases h; exact k
  | .int _, _, _, h, k => by cases h; exact k
  | .str _, _, _, h, k => by cases h; exact k
  | .tup _, _, _, h, _ => by cases h
  | .lst _, _, _, h, _ => by cases h
  | .dct _ _, _, _, h, _ => by cases h
  | .obj _ _ _, _, _, h, _ => by cases h
theorem flat_on {m : Md} (h : flat d = some v) : isLD d = false ∧ isObj d = false ∧ isTup d = false := by
  cases d <;> first | exact ⟨rfl, rfl, rfl⟩ | cases h
theorem At.flat (q : m.rd = true) (h : flat d = some v) : At C F H m d v [] := by
  obtain ⟨h1, h2, h3⟩ := flat_on (m := m) h
  cases m with
  | sc => cases q
  | fr => exact ⟨rfl, flat_da h⟩
  | bo => exact ⟨rfl, flat_da h⟩
  | pk m => unfold At; rw [if_neg (by rw [h1]; exact Bool.false_ne_true)]; exact ⟨rfl, flat_da h⟩
  | own m => unfold At; rw [if_neg (by rw [h1]; exact Bool.false_ne_true)]; exact ⟨rfl, flat_da h⟩
  | tu m => unfold At; rw [if_neg (by rw [h3]; exact Bool.false_ne_true)]; exact ⟨rfl, flat_da h⟩
  | ob m => unfold At; rw [if_neg (by rw [h2]; exact Bool.false_ne_true)]; exact ⟨rfl, flat_da h⟩
  | po m => unfold At; rw [if_neg (by rw [h2]; exact Bool.false_ne_true)]; exact ⟨rfl, flat_da h⟩
theorem tupO_rd {K : PySem.W.Frag} {a : Addr} {vs : List V} (tp : ∀ a o, H a = some o → tupO o = true → F a = some o) (h : SqT K H a vs) : SqT K F a vs := by
  rcases h with (h | ⟨o, h⟩) | h
  · exact .inl (.inl (tp _ _ h rfl))
  · exact .inl (.inr ⟨o, tp _ _ h rfl⟩)
  · exact .inr h
mutual
theorem imm_da {K : PySem.W.Frag} {mg : Str → Option Value} (tp : ∀ a o, H a = some o → tupO o = true → F a = some o) : ∀ (d : DV) (v : V), imm d = true → DA K mg H d v → DA K mg F d v
  | .non, _, _, h => h
  | .bl _, _, _, h => h
  | .int _, _, _, h => h
  | .str _, _, _, h => h
  | .tup ds, _, q, ⟨a, vs, h1, h2, h3⟩ => ⟨a, vs, h1, tupO_rd tp h2, imms_da tp ds vs q h3⟩
  | .lst _, _, q, _ => by cases q
  | .dct _ _, _, q, _ => by cases q
  | .obj _ _ _, _, q, _ => by cases q
theorem imms_da {K : PySem.W.Frag} {mg : Str → Option Value} (tp : ∀ a o, H a = some o → tupO o = true → F a = some o) : ∀ (ds : List DV) (vs : List V), imms ds = true → DAs K mg H ds vs → DAs K mg F ds vs
  | [], _, _, h => h
  | d :: ds, _, q, ⟨v, r, h1, h2, h3⟩ => ⟨v, r, h1, imm_da tp d v ((Bool.and_eq_true _ _).mp q).1 h2, imms_da tp ds r ((Bool.and_eq_true _ _).mp q).2 h3⟩
end

/-! ### an answer -/
theorem PE'.give {Q : VK} (r : Rep C F H Γ σ ρ L) (h : PE' C W Γ F H σ ρ L m Q (.ok d)) (hv : At C F H m d v []) : Q v H := h F H v (Same.refl _) (Same.refl _) (r.cons0 hv)
theorem PE'.flat {Q : VK} (r : Rep C F H Γ σ ρ L) (h : PE' C W Γ F H σ ρ L m Q (.ok d)) (q : m.rd = true) (e : flat d = some v) : Q v H := h.give r (At.flat q e)
theorem PE'.ext {Q : VK} {e : Ent} {x : Rs DV} (h : PE' C W Γ F H σ ρ L m Q x) : PE' C W Γ F H σ ρ (e :: L) m Q x := by
  cases x with
  | ok d => exact fun F' H' v s1 s2 r => h F' H' v s1 s2 r.swap.tail
  | ex c d => exact h
  | stuck => exact h
theorem PT'.ext {Q : Bool → Hp → Prop} {e : Ent} {x : Rs Bool} (h : PT' C W Γ F H σ ρ L Q x) : PT' C W Γ F H σ ρ (e :: L) Q x := by
  cases x with
  | ok d => exact fun F' H' s1 s2 r => h F' H' s1 s2 r.tail
  | ex c d => exact h
  | stuck => exact h

/-! ### names, constants, coercions -/
def lk (ρ : EnvD) (i : Nat) : Rs DV := match ρ[i]? with
  | some (some d) => .ok d
  | _ => .stuck
def gVar (i : Nat) : GE := fun ρ => lk ρ i
def gC (d : DV) : GE := fun _ => .ok d
theorem lk_ok {i : Nat} (h : lk ρ i = .ok d) : ρ[i]? = some (some d) := by
  unfold lk at h
  split at h
  · rename_i e; cases h; exact e
  · cases h
theorem lk_cases (ρ : EnvD) (i : Nat) : (∃ d, ρ[i]? = some (some d) ∧ lk ρ i = .ok d) ∨ lk ρ i = .stuck := by
  unfold lk
  split
  · rename_i d e; exact .inl ⟨d, e, rfl⟩
  · exact .inr rfl
theorem se_var {i : Nat} (e : Γ[i]? = some m) : SE C W Γ (tVar i) (gVar i) m.peek := by
  intro F H σ ρ L Q hL r h
  unfold gVar at h
  rcases lk_cases ρ i with ⟨d, e2, e3⟩ | e3
  · rw [e3] at h
    obtain ⟨v, h1, r1⟩ := r.look e e2
    exact ⟨v, h1, h F H v (Same.refl _) (Same.refl _) r1⟩
  · rw [e3] at h
    exact h.elim
theorem se_const {t : V} (q : m.rd = true) (h : flat d = some t) : SE C W Γ (tC t) (gC d) m := fun F H σ ρ L Q hL r k => k.flat r q h
theorem se_int {i : Int} : SE C W Γ (tC (.int i)) (gC (.int i)) .fr := se_const rfl rfl
theorem se_bl {b : Bool} : SE C W Γ (tC (.bl b)) (gC (.bl b)) .fr := se_const rfl rfl
theorem se_non : SE C W Γ (tC .non) (gC .non) .fr := se_const rfl rfl
theorem se_str {x : Str} : SE C W Γ (tC (.str x)) (gC (.str x)) .fr := se_const rfl rfl
/-- a module's constant -/
theorem se_glob {t : V} (h : ∀ F, DA C.K C.mg F d t) : SE C W Γ (tC t) (gC d) .fr := fun F H σ ρ L Q hL r k => k.give r ⟨rfl, h F⟩
/-- frozen -/
theorem se_fr {t : TE} {g : GE} (h : SE C W Γ t g m) (q : m.fz = true) : SE C W Γ t g .fr := by
  intro F H σ ρ L Q hL r k
  refine h F H σ ρ L Q hL r ?_
  revert k
  cases g ρ with
  | ok d =>
    intro k F1 H1 v s1 s2 r1
    obtain ⟨F2, s3, r2⟩ := r1.freeze q
    exact k F2 H1 v (s1.trans s3) s2 r2
  | ex c d => exact fun k => k
  | stuck => exact fun k => k
def gImm (g : GE) : GE := fun ρ => (g ρ).bind fun d => if imm d = true then .ok d else .stuck
/-- what cannot change is frozen by itself -/
theorem se_imm {t : TE} {g : GE} (h : SE C W Γ t g m) (q : m.rd = true) : SE C W Γ t (gImm g) .fr := by
  intro F H σ ρ L Q hL r k
  refine se_then h hL r k fun d F1 H1 x s1 s2 r1 k1 => ?_
  split at k1
  · rename_i hi
    exact k1 F1 H1 x (Same.refl _) (Same.refl _) (r1.tail.cons0 ⟨rfl, imm_da r1.fit.tp _ _ hi (r1.da q)⟩)
  · exact k1.elim
/-- peeked -/
theorem se_pk {t : TE} {g : GE} (h : SE C W Γ t g m) : SE C W Γ t g m.peek := by
  intro F H σ ρ L Q hL r k
  refine h F H σ ρ L Q hL r ?_
  revert k
  cases g ρ with
  | ok d => exact fun k F1 H1 v s1 s2 r1 => k F1 H1 v s1 s2 r1.peek
  | ex c d => exact fun k => k
  | stuck => exact fun k => k

/-! ### operators -/
abbrev OpD := DV → DV → Rs DV
/-- an operator's reading gives what op gives -/
def OpS (C : Cxt) (W : Wx) (r : R2) (op : OpD) (ma mb m : Md) : Prop :=
  ∀ Γ F H σ ρ L x y dx dy Q, Rep C F H Γ σ ρ ((mb, dy, y) :: (ma, dx, x) :: L) → PE' C W Γ F H σ ρ L m Q (op dx dy) → r x y H Q
def gBin (op : OpD) (ga gb : GE) : GE := fun ρ => (ga ρ).bind fun x => (gb ρ).bind fun y => op x y
theorem se_op {r : R2} {op : OpD} {ta tb : TE} {ga gb : GE} {ma mb : Md} (ho : OpS C W r op ma mb m) (ha : SE C W Γ ta ga ma) (hb : SE C W Γ tb gb mb) (qo : (ma.stor || ma.free) = true := by rfl) : SE C W Γ (tOp r ta tb) (gBin op ga gb) m := by
  intro F H σ ρ L Q hL r0 k
  show ta σ H fun x H1 => tb σ H1 fun y H2 => r x y H2 Q
  refine se_then ha hL r0 k fun x F1 H1 vx s1 s2 r1 k1 => ?_
  refine se_then hb (okL_cons qo hL) r1 k1 fun y F2 H2 vy s3 s4 r2 k2 => ?_
  refine ho Γ F2 H2 σ ρ L vx vy x y Q r2 ?_
  exact k2
/-- one of two readings -/
def rOr (r1 r2 : R2) : R2 := fun x y H Q => r1 x y H Q ∨ r2 x y H Q
def opOr (f g : OpD) : OpD := fun x y => match f x y with
  | .stuck => g x y
  | r => r
theorem OpS.or {r1 r2 : R2} {f g : OpD} {ma mb : Md} (h1 : OpS C W r1 f ma mb m) (h2 : OpS C W r2 g ma mb m) : OpS C W (rOr r1 r2) (opOr f g) ma mb m := by
  intro Γ F H σ ρ L x y dx dy Q r k
  unfold opOr at k
  cases e : f dx dy with
  | ok d => rw [e] at k; exact .inl (h1 Γ F H σ ρ L x y dx dy Q r (by rw [e]; exact k))
  | ex c d => rw [e] at k; exact .inl (h1 Γ F H σ ρ L x y dx dy Q r (by rw [e]; exact k))
  | stuck => rw [e] at k; exact .inr (h2 Γ F H σ ρ L x y dx dy Q r k)
theorem OpR_or {X : Cx} {f : Value → Value → Sem Value} {r1 r2 : R2} (h1 : OpR X f r1) (h2 : OpR X f r2) : OpR X f (rOr r1 r2) := fun pins s σ H x y v u Q I a b h => h.elim (h1 pins s σ H x y v u Q I a b) (h2 pins s σ H x y v u Q I a b)
theorem IxR_or {X : Cx} {r1 r2 : R2} (h1 : IxR X r1) (h2 : IxR X r2) : IxR X (rOr r1 r2) := fun a b pins s σ H x y v u Q I c d h => h.elim (h1 a b pins s σ H x y v u Q I c d) (h2 a b pins s σ H x y v u Q I c d)

/-- ints -/
def dII (p : Int → Int → Bool) (g : Int → Int → DV) : OpD := fun x y => match x, y with
  | .int i, .int j => if p i j = true then .ok (g i j) else .stuck
  | _, _ => .stuck
theorem Rep.da2 {x y : V} {dx dy : DV} {ma mb : Md} (r : Rep C F H Γ σ ρ ((mb, dy, y) :: (ma, dx, x) :: L)) (qa : ma.rd = true) (qb : mb.rd = true) : DA C.K C.mg H dx x ∧ DA C.K C.mg H dy y := ⟨r.tail.da qa, r.da qb⟩
theorem ops_ii {P : Int → Int → Prop} {p : Int → Int → Bool} {g : Int → Int → V} {gd : Int → Int → DV} {ma mb : Md} (qa : ma.rd = true) (qb : mb.rd = true) (q : m.rd = true) (hp : ∀ i j, p i j = true → P i j) (hg : ∀ i j, flat (gd i j) = some (g i j)) :
    OpS C W (rI P g) (dII p gd) ma mb m := by
  intro Γ F H σ ρ L x y dx dy Q r k
  obtain ⟨h1, h2⟩ := r.da2 qa qb
  unfold dII at k
  split at k
  · rename_i i j
    split at k
    · rename_i hq
      exact ⟨i, j, h1, h2, hp i j hq, k.flat r.tail.tail q (hg i j)⟩
    · exact k.elim
  · exact k.elim
theorem ops_ii0 {g : Int → Int → V} {gd : Int → Int → DV} {ma mb : Md} (qa : ma.rd = true) (qb : mb.rd = true) (q : m.rd = true) (hg : ∀ i j, flat (gd i j) = some (g i j)) :
    OpS C W (rI0 g) (dII (fun _ _ => true) gd) ma mb m := by
  intro Γ F H σ ρ L x y dx dy Q r k
  obtain ⟨h1, h2⟩ := r.da2 qa qb
  unfold dII at k
  split at k
  · rename_i i j
    rw [if_pos rfl] at k
    exact ⟨i, j, h1, h2, k.flat r.tail.tail q (hg i j)⟩
  · exact k.elim
end
end DL
end

/-! text DL3 -/
section
set_option maxRecDepth 100000
set_option maxHeartbeats 4000000
/-! the data layer, part 3: operators -/
namespace DL
open PySem PySem.Spec PyProof.Rows L2

/-- a mode that what is frozen has, too -/
@[reducible] def Md.fo : Md → Bool
  | .fr => true
  | .pk m => m.fo
  | .tu m => m.fo
  | .po m => m.fo
  | _ => false
/-- a mode whose parts may be read off -/
@[reducible] def Md.ixok : Md → Bool
  | .fr => true
  | .bo => true
  | .sc => true
  | .pk m => m.fo
  | .tu m => m.fo
  | .po m => m.fo
  | _ => false
section
variable {C : Cxt} {W : Wx} {F F' H H' : Hp} {Γ : List Md} {σ : L2.St} {ρ : EnvD} {L : List Ent} {m ma mb : Md} {d : DV} {v : V}
theorem At.of_fr (s : Same F H) : ∀ {m : Md} {d : DV} {v : V}, m.fo = true → DA C.K C.mg F d v → At C F H m d v [] := by
  intro m
  induction m with
  | fr => intro d v _ h; exact ⟨rfl, h⟩
  | bo => intro d v q; cases q
  | sc => intro d v q; cases q
  | own m _ => intro d v q; cases q
  | ob m _ => intro d v q; cases q
  | pk m ih =>
    intro d v q h
    unfold At
    split
    · cases d with
      | lst ds => obtain ⟨a, vs, h1, h2, h3⟩ := h; exact ⟨a, vs, h1, same_rd s h2, Alls.of_das h3 fun d v x => ih q x⟩
      | dct ks ds => obtain ⟨a, vs, h1, h2, h3⟩ := h; exact ⟨a, vs, h1, ⟨s _ _ h2.1, h2.2⟩, Alls.of_das h3 fun d v x => ih q x⟩
      | _ => rename_i z; cases z
    · exact ⟨rfl, h⟩
  | po m ih =>
    intro d v q h
    unfold At
    split
    · cases d with
      | obj c ns ds => obtain ⟨a, vs, h1, ⟨C1, dx, g, h2, h4⟩, h3⟩ := h; exact ⟨a, vs, h1, ⟨C1, dx, g, s _ _ h2, h4⟩, Alls.of_das h3 fun d v x => ih q x⟩
      | _ => rename_i z; cases z
    · exact ⟨rfl, h⟩
  | tu m ih =>
    intro d v q h
    unfold At
    split
    · cases d with
      | tup ds => obtain ⟨a, vs, h1, h2, h3⟩ := h; exact ⟨a, vs, h1, h2, Alls.of_das h3 fun d v x => ih q x⟩
      | _ => rename_i z; cases z
    · exact ⟨rfl, h⟩
theorem fo_rd : ∀ m : Md, m.fo = true → m.rd = true
  | .fr, _ => rfl
  | .pk m, h => fo_rd m h
  | .tu m, h => fo_rd m h
  | .po m, h => fo_rd m h
theorem Rep.daX (r : Rep C F H Γ σ ρ ((m, d, v) :: L)) (q : m.ixok = true) (hd : ∀ ds, d ≠ .lst ds) : DA C.K C.mg H d v := by
  cases m with
  | fr => exact r.da rfl
  | bo => exact r.da rfl
  | sc => obtain ⟨f, h⟩ := r.head; obtain ⟨_, a, ns, _, h2, _⟩ := h; exact absurd h2 (hd _)
  | pk m => exact r.da (fo_rd m q)
  | tu m => exact r.da (fo_rd m q)
  | po m => exact r.da (fo_rd m q)
  | own m => cases q
  | ob m => cases q
theorem DAs.at (h : DAs C.K C.mg F ds vs) (k : ∀ d v, DA C.K C.mg F d v → At C F H m d v []) : Alls (At C F H m) ds vs [] := Alls.of_das h k
/-- the items of a list -/
theorem Rep.items {ds : List DV} (r : Rep C F H Γ σ ρ ((ma, .lst ds, v) :: L)) (q : ma.ixok = true) : ∃ a vs, v = .ref a ∧ (SqL C.K H a vs ∧ (ma.rd = true → Rd H a (.lst vs))) ∧ Alls (At C F H ma.kid) ds vs [] := by
  obtain ⟨f, h⟩ := r.head
  have s := r.fit.fh
  cases ma with
  | fr =>
    obtain ⟨_, a, vs, h1, h2, h3⟩ := h
    exact ⟨a, vs, h1, ⟨.inl (same_rd s h2), fun _ => same_rd s h2⟩, Alls.of_das h3 fun d v x => ⟨rfl, x⟩⟩
  | bo =>
    obtain ⟨_, a, vs, h1, h2, h3⟩ := h
    exact ⟨a, vs, h1, ⟨.inl (same_rd r.fit.bh h2), fun _ => same_rd r.fit.bh h2⟩, Alls.of_das h3 fun d v x => ⟨rfl, x⟩⟩
  | sc =>
    obtain ⟨_, a, ns, h1, h2, h3⟩ := h
    cases h2
    refine ⟨a, _, h1, ⟨s.seq h3, fun q => by cases q⟩, ?_⟩
    clear h1 h3 r
    induction ns with
    | nil => exact ⟨rfl, rfl⟩
    | cons n ns ih => exact ⟨.int n, _, [], [], rfl, rfl, ⟨rfl, rfl⟩, ih⟩
  | pk m =>
    unfold At at h
    rw [if_pos (show isLD (DV.lst ds) = true from rfl)] at h
    obtain ⟨a, vs, h1, h2, h3⟩ := h
    exact ⟨a, vs, h1, ⟨.inl h2, fun _ => h2⟩, h3.pt fun d v f x => by
      have e := x.free_nil (by
        clear r h1 h2 h3 x
        induction m with
        | fr => rfl
        | pk m ih => exact ih q
        | po m ih => exact ih q
        | tu m ih => exact ih q
        | _ => cases q)
      rw [e] at x
      exact x⟩
  | tu m =>
    unfold At at h
    rw [if_neg (by exact Bool.false_ne_true)] at h
    obtain ⟨_, a, vs, h1, h2, h3⟩ := h
    exact ⟨a, vs, h1, ⟨.inl (same_rd s h2), fun _ => same_rd s h2⟩, Alls.of_das h3 fun d v x => At.of_fr s q x⟩
  | po m =>
    unfold At at h
    rw [if_neg (by exact Bool.false_ne_true)] at h
    obtain ⟨_, a, vs, h1, h2, h3⟩ := h
    exact ⟨a, vs, h1, ⟨.inl (same_rd s h2), fun _ => same_rd s h2⟩, Alls.of_das h3 fun d v x => At.of_fr s q x⟩
  | own m => cases q
  | ob m => cases q
theorem Rep.parts {ds : List DV} (r : Rep C F H Γ σ ρ ((ma, .tup ds, v) :: L)) (q : ma.ixok = true) : ∃ a vs, v = .ref a ∧ SqT C.K H a vs ∧ Alls (At C F H ma.kid) ds vs [] := by
  obtain ⟨f, h⟩ := r.head
  have s := r.fit.fh
  cases ma with
  | fr =>
    obtain ⟨_, a, vs, h1, h2, h3⟩ := h
    exact ⟨a, vs, h1, same_sqt s h2, Alls.of_das h3 fun d v x => ⟨rfl, x⟩⟩
  | bo =>
    obtain ⟨_, a, vs, h1, h2, h3⟩ := h
    exact ⟨a, vs, h1, same_sqt r.fit.bh h2, Alls.of_das h3 fun d v x => ⟨rfl, x⟩⟩
  | sc =>
    obtain ⟨_, a, ns, h1, h2, h3⟩ := h
    cases h2
  | tu m =>
    unfold At at h
    rw [if_pos (show isTup (DV.tup ds) = true from rfl)] at h
    obtain ⟨a, vs, h1, h2, h3⟩ := h
    exact ⟨a, vs, h1, same_sqt s h2, h3.pt fun d v f x => by
      have e := x.free_nil (by
        clear r h1 h2 h3 x
        induction m with
        | fr => rfl
        | pk m ih => exact ih q
        | po m ih => exact ih q
        | tu m ih => exact ih q
        | _ => cases q)
      rw [e] at x
      exact x⟩
  | pk m =>
    unfold At at h
    rw [if_neg (by exact Bool.false_ne_true)] at h
    obtain ⟨_, a, vs, h1, h2, h3⟩ := h
    exact ⟨a, vs, h1, same_sqt s h2, Alls.of_das h3 fun d v x => At.of_fr s q x⟩
  | po m =>
    unfold At at h
    rw [if_neg (by exact Bool.false_ne_true)] at h
    obtain ⟨_, a, vs, h1, h2, h3⟩ := h
    exact ⟨a, vs, h1, same_sqt s h2, Alls.of_das h3 fun d v x => At.of_fr s q x⟩
  | own m => cases q
  | ob m => cases q
theorem Alls.nil_get {R : DV → V → List Addr → Prop} {ds : List DV} {vs : List V} {i : Nat} (h : Alls R ds vs []) (e : ds[i]? = some d) : ∃ v, vs[i]? = some v ∧ R d v [] := by
  obtain ⟨v, f, h1, h2, h3⟩ := h.get e
  have e : f = [] := by
    cases f with
    | nil => rfl
    | cons a f => exact absurd (h3 a List.mem_cons_self) (List.not_mem_nil)
  rw [e] at h2
  exact ⟨v, h1, h2⟩
theorem Alls.atI {R : DV → V → List Addr → Prop} {ds : List DV} {vs : List V} {i : Int} (h : Alls R ds vs []) (e : L2.atI ds i = some d) : ∃ v, L2.atI vs i = some v ∧ R d v [] := by
  unfold L2.atI at e ⊢
  rw [← h.length]
  cases q : ixN ds.length i with
  | none => rw [q] at e; cases e
  | some j =>
    rw [q] at e
    exact h.nil_get (i := j) e

/-! ### subscripts -/
def ofO (o : Option DV) : Rs DV := match o with
  | some d => .ok d
  | none => .stuck
def dIx : OpD := fun x y => match x, y with
  | .lst ds, .int i => ofO (L2.atI ds i)
  | .tup ds, .int i => ofO (L2.atI ds i)
  | _, _ => .stuck
abbrev rIxX (K : PySem.W.Frag) : R2 := rOr (rIxL K) (rIxT K)
theorem ix_X {X : Cx} : IxR X (rIxX X.K) := IxR_or ix_list ix_tup
theorem os_ix (q : ma.ixok = true := by rfl) (qb : mb.rd = true := by rfl) : OpS C W (rIxX C.K) dIx ma mb ma.kid := by
  intro Γ F H σ ρ L x y dx dy Q r k
  unfold dIx at k
  have hy := r.da qb
  split at k
  · rename_i ds i
    obtain ⟨a, vs, h1, h2, h3⟩ := r.tail.items q
    cases e : L2.atI ds i with
    | none => rw [e] at k; exact k.elim
    | some d =>
      rw [e] at k
      obtain ⟨w, e1, e2⟩ := h3.atI e
      exact .inl ⟨a, vs, i, w, h1, hy, h2.1, e1, k.give r.tail.tail e2⟩
  · rename_i ds i
    obtain ⟨a, vs, h1, h2, h3⟩ := r.tail.parts q
    cases e : L2.atI ds i with
    | none => rw [e] at k; exact k.elim
    | some d =>
      rw [e] at k
      obtain ⟨w, e1, e2⟩ := h3.atI e
      exact .inr ⟨a, vs, i, w, h1, hy, h2, e1, k.give r.tail.tail e2⟩
  · exact k.elim

/-! ### new lists -/
theorem upd_nt {p : Addr} {o : HO} (np : H p = none) (ho : tupO o = false) : ∀ a u, upd H p o a = some u → tupO u = true → H a = some u := fun a u e q => by
  by_cases h : a = p
  · subst h
    rw [upd_same] at e
    cases e
    rw [ho] at q
    cases q
  · rw [upd_ne h] at e
    exact e
/-- objects laid, of which one is the root of a new entry -/
theorem Rep.new {fp : List Addr} (r : Rep C F H Γ σ ρ L) (s : Same H H') (nt : ∀ a o, H' a = some o → tupO o = true → H a = some o) (h : At C F H' m d v fp) (nd : fp.Nodup) (fr : ∀ a ∈ fp, H a = none) : Rep C F H' Γ σ ρ ((m, d, v) :: L) := by
  obtain ⟨f1, f2, nd2, a, b⟩ := r.own
  have oa := a.owned
  have ob := b.owned
  refine ⟨r.fit.alloc s nt, r.io, f1, fp ++ f2, ?_, a.mono (Same.refl _) (fun x hx => (oa x hx).1) (fun x hx => ?_) (.inr s), fp, f2, rfl, h, b.mono (Same.refl _) (fun x hx => (ob x hx).1) (fun x hx => ?_) (.inr s)⟩
  · have hf : ∀ x ∈ f1 ++ f2, x ∉ fp := fun x hx hy => by
      have hn := fr x hy
      rcases List.mem_append.mp hx with z | z
      · obtain ⟨_, _, o, e, _⟩ := oa x z; rw [hn] at e; cases e
      · obtain ⟨_, _, o, e, _⟩ := ob x z; rw [hn] at e; cases e
    refine List.Perm.nodup (l := fp ++ (f1 ++ f2)) ?_ ?_
    · rw [← List.append_assoc, ← List.append_assoc]
      exact List.Perm.append List.perm_append_comm (List.Perm.refl _)
    · exact List.nodup_append.mpr ⟨nd, nd2, fun x hx y hy e => hf y hy (e ▸ hx)⟩
  · obtain ⟨_, _, o, e, _⟩ := oa x hx
    rw [e]; exact s _ _ e
  · obtain ⟨_, _, o, e, _⟩ := ob x hx
    rw [e]; exact s _ _ e
theorem Exs.gather : ∀ {ms : List Md} {ds : List DV} {vs : List V} {L : List Ent} {f : List Addr}, Exs C F H (entsA ms ds vs L) f → (∀ x ∈ ms, x = m) → ms.length = vs.length → ds.length = vs.length →
    ∃ f1 f2, f.Perm (f1 ++ f2) ∧ Alls (At C F H m) ds vs f1 ∧ Exs C F H L f2
  | [], [], [], L, f, h, _, _, _ => ⟨[], f, List.Perm.refl _, ⟨rfl, rfl⟩, h⟩
  | [], d :: ds, [], L, f, h, _, _, e => by cases e
  | [], ds, v :: vs, L, f, h, _, e, _ => by cases e
  | a :: ms, ds, [], L, f, h, _, e, _ => by cases e
  | a :: ms, [], v :: vs, L, f, h, _, _, e => by cases e
  | a :: ms, d :: ds, v :: vs, L, f, h, q, e1, e2 => by
    obtain ⟨g1, g2, p, hA, h1, h2, e3, h3, h4⟩ := Exs.gather (ms := ms) (ds := ds) (vs := vs) h (fun x hx => q x (List.mem_cons_of_mem _ hx)) (by simpa using e1) (by simpa using e2)
    subst e3
    have ea : a = m := q a List.mem_cons_self
    subst ea
    refine ⟨h1 ++ g1, h2, p.trans ?_, ⟨v, vs, h1, g1, rfl, rfl, h3, hA⟩, h4⟩
    rw [← List.append_assoc]
    exact List.Perm.append List.perm_append_comm (List.Perm.refl _)
/-- a new node over the entries of an argument list -/
theorem Rep.node {ms : List Md} {ds : List DV} {vs : List V} {p : Addr} {o : HO} (r : Rep C F H Γ σ ρ (entsA ms ds vs L)) (q : ∀ x ∈ ms, x = m) (e1 : ms.length = vs.length) (e2 : ds.length = vs.length) (np : H p = none) (ho : tupO o = false) (hk : kids d = ds) (hd : isLD d = true) (hn : Node C.mg d vs o) :
    Rep C F (upd H p o) Γ σ ρ ((.own m, d, .ref p) :: L) := by
  obtain ⟨f1, f2, nd, a, b⟩ := r.own
  obtain ⟨g1, g2, pm, hA, hL⟩ := b.gather q e1 e2
  have oa := a.owned
  have ob := b.owned
  have s : Same H (upd H p o) := same_upd np
  have kp : ∀ x, Owned C F H x → upd H p o x = H x := fun x ⟨_, _, u, e, _⟩ => by rw [upd_ne (ne_of_none e np)]
  have ob1 : ∀ x ∈ g1, Owned C F H x := fun x hx => ob x (pm.mem_iff.mpr (List.mem_append_left _ hx))
  have ob2 : ∀ x ∈ g2, Owned C F H x := fun x hx => ob x (pm.mem_iff.mpr (List.mem_append_right _ hx))
  have hp : F p = none := Same.free r.fit.fh np
  have hb : C.Bp p = none := Same.free r.fit.bh np
  refine ⟨r.fit.alloc s (upd_nt np ho), r.io, f1, (p :: g1) ++ g2, ?_, a.mono (Same.refl _) (fun x hx => (oa x hx).1) (fun x hx => kp x (oa x hx)) (.inr s), p :: g1, g2, rfl, ?_, hL.mono (Same.refl _) (fun x hx => (ob2 x hx).1) (fun x hx => kp x (ob2 x hx)) (.inr s)⟩
  · refine List.Perm.nodup (l := p :: (f1 ++ f2)) ?_ ?_
    · refine (List.perm_middle (a := p) (l₁ := f1) (l₂ := f2)).symm.trans ?_
      exact List.Perm.append (List.Perm.refl _) (List.Perm.cons _ pm)
    · refine List.nodup_cons.mpr ⟨fun z => ?_, nd⟩
      rcases List.mem_append.mp z with z | z
      · obtain ⟨_, _, u, e, _⟩ := oa p z; rw [np] at e; cases e
      · obtain ⟨_, _, u, e, _⟩ := ob p z; rw [np] at e; cases e
  · unfold At
    rw [if_pos hd]
    refine ⟨p, vs, o, g1, rfl, hp, hb, upd_same, hn, rfl, ?_⟩
    rw [hk]
    exact hA.imp fun d v f hf x => x.mono (Same.refl _) (fun y hy => (ob1 y (hf y hy)).1) (fun y hy => kp y (ob1 y (hf y hy))) (.inr s)
def eLst (g : GA) : GE := fun ρ => (g ρ).bind fun ds => if ds.length ≤ sizeLine then .ok (.lst ds) else .stuck
theorem se_lst {t : TA} {g : GA} {ms : List Md} (h : SA C W Γ t g ms) (q : ∀ x ∈ ms, x = m) : SE C W Γ (tLst t) (eLst g) (.own m) := by
  intro F H σ ρ L Q hL r k
  show t σ H fun xs H1 => xs.length ≤ sizeLine ∧ ∀ p, H1 p = none → Q (.ref p) (upd H1 p (.lst xs))
  refine sa_then h hL r k fun ds F1 H1 vs s1 s2 e1 e2 r1 k1 => ?_
  split at k1
  · rename_i hz
    refine ⟨by rw [← e1]; exact hz, fun p np => ?_⟩
    exact k1 F1 _ _ (Same.refl _) (same_upd np) (r1.node q e2 e1 np rfl rfl rfl rfl)
  · exact k1.elim
/-- a new tuple over the entries of an argument list -/
theorem Rep.tuple {ms : List Md} {ds : List DV} {vs : List V} {p : Addr} (r : Rep C F H Γ σ ρ (entsA ms ds vs L)) (q : ∀ x ∈ ms, x = m) (e1 : ms.length = vs.length) (e2 : ds.length = vs.length) (np : H p = none) :
    Same F (upd F p (.tup vs)) ∧ Rep C (upd F p (.tup vs)) (upd H p (.tup vs)) Γ σ ρ ((.tu m, .tup ds, .ref p) :: L) := by
  obtain ⟨f1, f2, nd, a, b⟩ := r.own
  obtain ⟨g1, g2, pm, hA, hL⟩ := b.gather q e1 e2
  have oa := a.owned
  have ob := b.owned
  have s : Same H (upd H p (.tup vs)) := same_upd np
  have hp : F p = none := Same.free r.fit.fh np
  have hb : C.Bp p = none := Same.free r.fit.bh np
  have sf : Same F (upd F p (.tup vs)) := same_upd hp
  have kp : ∀ x, Owned C F H x → upd H p (.tup vs) x = H x := fun x ⟨_, _, u, e, _⟩ => by rw [upd_ne (ne_of_none e np)]
  have kf : ∀ x, Owned C F H x → upd F p (.tup vs) x = none := fun x ⟨h, _, u, e, _⟩ => by rw [upd_ne (ne_of_none e np)]; exact h
  have ob1 : ∀ x ∈ g1, Owned C F H x := fun x hx => ob x (pm.mem_iff.mpr (List.mem_append_left _ hx))
  have ob2 : ∀ x ∈ g2, Owned C F H x := fun x hx => ob x (pm.mem_iff.mpr (List.mem_append_right _ hx))
  refine ⟨sf, ⟨r.fit.ff.trans sf, fun x u e => ?_, r.fit.bh.trans s, fun x hx => ?_, fun x u e t => ?_⟩, r.io, f1, g1 ++ g2, ?_, a.mono sf (fun x hx => kf x (oa x hx)) (fun x hx => kp x (oa x hx)) (.inr s), g1, g2, rfl, ?_, hL.mono sf (fun x hx => kf x (ob2 x hx)) (fun x hx => kp x (ob2 x hx)) (.inr s)⟩
  · by_cases z : x = p
    · subst z; rw [upd_same] at e ⊢; exact e
    · rw [upd_ne z] at e ⊢; exact r.fit.fh _ _ e
  · by_cases z : x = p
    · subst z; exact .inr (.inl hb)
    · rw [upd_ne z] at hx; exact r.fit.f0 x hx
  · by_cases z : x = p
    · subst z; rw [upd_same] at e ⊢; exact e
    · rw [upd_ne z] at e ⊢; exact r.fit.tp x u e t
  · exact List.Perm.nodup (List.Perm.append (List.Perm.refl _) pm) nd
  · unfold At
    rw [if_pos (show isTup (DV.tup ds) = true from rfl)]
    refine ⟨p, vs, rfl, .inl (.inl upd_same), ?_⟩
    exact hA.imp fun d v f hf x => x.mono sf (fun y hy => kf y (ob1 y (hf y hy))) (fun y hy => kp y (ob1 y (hf y hy))) (.inr s)
def eTup (g : GA) : GE := fun ρ => (g ρ).bind fun ds => if ds.length ≤ sizeLine then .ok (.tup ds) else .stuck
theorem se_tupM {t : TA} {g : GA} {ms : List Md} (h : SA C W Γ t g ms) (q : ∀ x ∈ ms, x = m) : SE C W Γ (tTup t) (eTup g) (.tu m) := by
  intro F H σ ρ L Q hL r k
  show t σ H fun xs H1 => xs.length ≤ sizeLine ∧ ∀ p, H1 p = none → Q (.ref p) (upd H1 p (.tup xs))
  refine sa_then h hL r k fun ds F1 H1 vs s1 s2 e1 e2 r1 k1 => ?_
  split at k1
  · rename_i hz
    refine ⟨by rw [← e1]; exact hz, fun p np => ?_⟩
    obtain ⟨sf, r2⟩ := r1.tuple q e2 e1 np
    exact k1 _ _ _ sf (same_upd np) r2
  · exact k1.elim
theorem se_tup {t : TA} {g : GA} {ms : List Md} (h : SA C W Γ t g ms) (q : ∀ x ∈ ms, x = .fr) : SE C W Γ (tTup t) (eTup g) .fr := se_fr (se_tupM h q) rfl

/-! ### argument lists -/
def aNil : GA := fun _ => .ok []
def aCons (ga : GE) (gr : GA) : GA := fun ρ => (ga ρ).bind fun x => (gr ρ).bind fun xs => .ok (x :: xs)
theorem sa_nil : SA C W Γ tNil aNil [] := fun F H σ ρ L Q hL r k => k F H [] (Same.refl _) (Same.refl _) rfl rfl r
theorem sa_cons {ta : TE} {tr : TA} {ga : GE} {gr : GA} {ms : List Md} (ha : SE C W Γ ta ga m) (hr : SA C W Γ tr gr ms) (qo : (m.stor || m.free) = true := by rfl) : SA C W Γ (tCons ta tr) (aCons ga gr) (m :: ms) := by
  intro F H σ ρ L Q hL r k
  show ta σ H fun x H1 => tr σ H1 fun xs H2 => Q (x :: xs) H2
  refine se_thenA ha hL r k fun d F1 H1 x s1 s2 r1 k1 => ?_
  refine hr F1 H1 σ ρ _ _ (okL_cons qo hL) r1 ?_
  revert k1
  cases gr ρ with
  | ok ds => exact fun k1 F2 H2 vs s3 s4 e1 e2 r2 => k1 F2 H2 (x :: vs) s3 s4 (by rw [List.length_cons, List.length_cons, e1]) (by rw [List.length_cons, List.length_cons, e2]) r2
  | ex c d => exact fun k1 => k1
  | stuck => exact fun k1 => k1
end
end DL
end

/-! text DL4 -/
section
set_option maxRecDepth 100000
set_option maxHeartbeats 4000000
/-! the data layer, part 4: arithmetic, comparisons, tests, calls of built-ins, slices -/
namespace DL
open PySem PySem.Spec PyProof.Rows L2

section
variable {X : Cx} {pins : List (Addr × Obj)} {σ : L2.St} {H : Hp} {s : Shared}
theorem lstR {l : Addr} {xs : List V} (I : Inv X pins σ H s) (hH : Rd H l (.lst xs)) : xs.length ≤ sizeLine ∧ ∃ (its : List Value) (n : Nat), Vals xs its ∧ xs.length = its.length ∧ s.heap.get? l = some { cls := .type "list", data := .seq its.toArray n } := by
  obtain ⟨z, its, n, r, e⟩ := hH.ok I.hok
  exact ⟨z, its, n, r, r.length, e⟩
def rCatR : R2 := fun x y H Q => ∃ l b xs zs, x = .ref l ∧ y = .ref b ∧ Rd H l (.lst xs) ∧ Rd H b (.lst zs) ∧ xs.length + zs.length ≤ sizeLine ∧ ∀ p, H p = none → Q (.ref p) (upd H p (.lst (xs ++ zs)))
theorem op_catR : OpR X (binaryOp .Add) rCatR := by
  intro pins s σ H x y v u Q I rx ry h
  obtain ⟨l, b, xs, zs, rfl, rfl, hH, hB, hz, q⟩ := h
  cases rx
  cases ry
  obtain ⟨z, its, n, r, hl, e⟩ := lstR I hH
  obtain ⟨z2, its2, n2, r2, hl2, e2⟩ := lstR I hB
  refine PySem.P.add_list e e2 ?_ (by rw [List.size_toArray, List.size_toArray]; omega)
  have ea : its.toArray ++ its2.toArray = (its ++ its2).toArray := by simp
  rw [ea]
  exact ⟨.ref _, _, I.lnew (t' := s.toks) (r.append r2) (by rw [List.length_append]; omega), rfl, q _ I.fresh⟩
end

section
variable {C : Cxt} {W : Wx} {F F' H H' : Hp} {Γ : List Md} {σ : L2.St} {ρ : EnvD} {L : List Ent} {m ma mb : Md} {d : DV} {v : V}
theorem Rep.newl {ds : List DV} {vs : List V} {p : Addr} (r : Rep C F H Γ σ ρ L) (np : H p = none) (hA : Alls (At C F H m) ds vs []) : Rep C F (upd H p (.lst vs)) Γ σ ρ ((.own m, .lst ds, .ref p) :: L) := by
  have s : Same H (upd H p (.lst vs)) := same_upd np
  refine r.new s (upd_nt np rfl) (fp := [p]) ?_ (by simp) (fun a ha => by rw [List.mem_singleton.mp ha]; exact np)
  unfold At
  rw [if_pos (show isLD (.lst ds) = true from rfl)]
  exact ⟨p, vs, _, [], rfl, Same.free r.fit.fh np, Same.free r.fit.bh np, upd_same, rfl, rfl, hA.imp fun d v f hf x => x.mono (Same.refl _) (fun a ha => absurd (hf a ha) (List.not_mem_nil)) (fun a ha => absurd (hf a ha) (List.not_mem_nil)) (.inr s)⟩
theorem Alls.take {R : DV → V → List Addr → Prop} : ∀ {ds : List DV} {vs : List V} (n : Nat), Alls R ds vs [] → Alls R (ds.take n) (vs.take n) []
  | _, _, 0, _ => ⟨rfl, rfl⟩
  | [], _, n + 1, h => by rw [h.1]; exact ⟨rfl, rfl⟩
  | d :: ds, _, n + 1, ⟨v, r, f1, f2, h1, h2, h3, h4⟩ => by
    subst h1
    obtain ⟨e1, e2⟩ := List.append_eq_nil_iff.mp h2.symm
    subst e1
    subst e2
    exact ⟨v, _, [], [], rfl, rfl, h3, Alls.take n h4⟩
theorem Alls.drop {R : DV → V → List Addr → Prop} : ∀ {ds : List DV} {vs : List V} (n : Nat), Alls R ds vs [] → Alls R (ds.drop n) (vs.drop n) []
  | _, _, 0, h => h
  | [], _, n + 1, h => by rw [h.1]; exact ⟨rfl, rfl⟩
  | d :: ds, _, n + 1, ⟨v, r, f1, f2, h1, h2, h3, h4⟩ => by
    subst h1
    obtain ⟨e1, e2⟩ := List.append_eq_nil_iff.mp h2.symm
    subst e1
    subst e2
    exact Alls.drop n h4

/-! ### arithmetic -/
def dCat : OpD := fun x y => match x, y with
  | .lst xs, .lst ys => if xs.length + ys.length ≤ sizeLine then .ok (.lst (xs ++ ys)) else .stuck
  | _, _ => .stuck
def dCatT : OpD := fun x y => match x, y with
  | .tup xs, .tup ys => if xs.length + ys.length ≤ sizeLine then .ok (.tup (xs ++ ys)) else .stuck
  | _, _ => .stuck
def dCatS : OpD := fun x y => match x, y with
  | .str x, .str y => if x.length + y.length ≤ sizeLine then .ok (.str (x ++ y)) else .stuck
  | _, _ => .stuck
def tt2 : Int → Int → Bool := fun _ _ => true
def dAdd : OpD := opOr (dII tt2 fun i j => .int (i + j)) (opOr dCat dCatS)
abbrev rCatS : R2 := fun x y H Q => ∃ i j, x = .str i ∧ y = .str j ∧ i.length + j.length ≤ sizeLine ∧ Q (.str (i ++ j)) H
abbrev rAddX : R2 := rOr (rI0 fun i j => .int (i + j)) (rOr rCatR rCatS)
theorem op_addX {X : Cx} : OpR X (binaryOp .Add) rAddX := OpR_or op_add (OpR_or op_catR op_add_str)
theorem os_cat (qa : ma.ixok = true) (qb : mb.ixok = true) (ra : ma.rd = true) (rb : mb.rd = true) (ka : ma.kid = m) (kb : mb.kid = m) : OpS C W rCatR dCat ma mb (.own m) := by
  intro Γ F H σ ρ L x y dx dy Q r k
  unfold dCat at k
  split at k
  · rename_i xs ys
    obtain ⟨a, vs, h1, h2, h3⟩ := r.tail.items qa
    obtain ⟨b, ws, g1, g2, g3⟩ := r.items qb
    rw [ka] at h3
    rw [kb] at g3
    split at k
    · rename_i hz
      refine ⟨a, b, vs, ws, h1, g1, h2.2 ra, g2.2 rb, by rw [← h3.length, ← g3.length]; exact hz, fun p np => ?_⟩
      exact k F _ _ (Same.refl _) (same_upd np) (r.tail.tail.newl np (h3.append g3))
    · exact k.elim
  · exact k.elim
theorem os_catS (ra : ma.rd = true) (rb : mb.rd = true) (q : m.rd = true) : OpS C W rCatS dCatS ma mb m := by
  intro Γ F H σ ρ L x y dx dy Q r k
  obtain ⟨h1, h2⟩ := r.da2 ra rb
  unfold dCatS at k
  split at k
  · split at k
    · rename_i hz
      exact ⟨_, _, h1, h2, hz, k.flat r.tail.tail q rfl⟩
    · exact k.elim
  · exact k.elim
theorem os_add (qa : ma.ixok = true := by rfl) (qb : mb.ixok = true := by rfl) (ra : ma.rd = true := by rfl) (rb : mb.rd = true := by rfl) (ka : ma.kid = .fr := by rfl) (kb : mb.kid = .fr := by rfl) : OpS C W rAddX dAdd ma mb (.own .fr) :=
  (ops_ii0 ra rb rfl fun _ _ => rfl).or ((os_cat qa qb ra rb ka kb).or (os_catS ra rb rfl))
def dSub : OpD := dII tt2 fun i j => .int (i - j)
theorem os_sub (ra : ma.rd = true := by rfl) (rb : mb.rd = true := by rfl) : OpS C W (rI0 fun i j => .int (i - j)) dSub ma mb .fr := ops_ii0 ra rb rfl fun _ _ => rfl
def mulOk (i j : Int) : Bool := decide (i.natAbs < 2 ^ 64) || (decide (j.natAbs < 2 ^ 64) || decide (i.natAbs.log2 + j.natAbs.log2 < 1000000))
theorem bits64 {i : Int} (h : i.natAbs < 2 ^ 64) : Builtin.Int.intBits i ≤ 64 := by
  have z := PySem.Flt.log2_lt_of (by decide : 0 < 64) h
  unfold Builtin.Int.intBits
  split <;> omega
theorem mulOk_ok {i j : Int} (h : mulOk i j = true) : IntMulOk i j := by
  rcases (Bool.or_eq_true _ _).mp h with h | h
  · exact IntMulOk.of_left (bits64 (of_decide_eq_true h))
  · rcases (Bool.or_eq_true _ _).mp h with h | h
    · exact IntMulOk.of_right (bits64 (of_decide_eq_true h))
    · have h2 : i.natAbs.log2 + j.natAbs.log2 < 1000000 := of_decide_eq_true h
      exact CMulW.ok h2
theorem op_mulX {X : Cx} : OpR X (binaryOp .Mult) (rI IntMulOk fun i j => .int (i * j)) := opI fun _ _ _ _ _ _ _ hc q => mul_int q hc
def dMul : OpD := dII mulOk fun i j => .int (i * j)
theorem os_mul (ra : ma.rd = true := by rfl) (rb : mb.rd = true := by rfl) : OpS C W (rI IntMulOk fun i j => .int (i * j)) dMul ma mb .fr := ops_ii ra rb rfl (fun _ _ h => mulOk_ok h) fun _ _ => rfl
def divOk (_ j : Int) : Bool := decide (0 < j) && decide (j.natAbs.log2 < 9000)
def divOkN (_ j : Int) : Bool := decide (j ≠ 0) && decide (j.natAbs < 1073741824)
def dDiv : OpD := opOr (dII divOk fun i j => .int (i / j)) (dII divOkN fun i j => .int (i.fdiv j))
abbrev rDivX : R2 := rOr (rI CDivW fun i j => .int (i / j)) (rI CDivN fun i j => .int (i.fdiv j))
theorem op_divX {X : Cx} : OpR X (binaryOp .FloorDiv) rDivX := OpR_or op_fdivW op_fdivN
theorem os_div (ra : ma.rd = true := by rfl) (rb : mb.rd = true := by rfl) : OpS C W rDivX dDiv ma mb .fr :=
  (ops_ii ra rb rfl (fun _ _ h => ⟨of_decide_eq_true ((Bool.and_eq_true _ _).mp h).1, of_decide_eq_true ((Bool.and_eq_true _ _).mp h).2⟩) fun _ _ => rfl).or
    (ops_ii ra rb rfl (fun _ _ h => ⟨of_decide_eq_true ((Bool.and_eq_true _ _).mp h).1, of_decide_eq_true ((Bool.and_eq_true _ _).mp h).2⟩) fun _ _ => rfl)
def dMod : OpD := opOr (dII (fun _ j => decide (0 < j)) fun i j => .int (i % j)) (dII (fun _ j => decide (j ≠ 0)) fun i j => .int (i.fmod j))
abbrev rModX : R2 := rOr (rI (fun _ j => 0 < j) fun i j => .int (i % j)) (rI (fun _ j => j ≠ 0) fun i j => .int (i.fmod j))
theorem op_modX {X : Cx} : OpR X (binaryOp .Mod) rModX := OpR_or op_mod op_modN
theorem os_mod (ra : ma.rd = true := by rfl) (rb : mb.rd = true := by rfl) : OpS C W rModX dMod ma mb .fr :=
  (ops_ii ra rb rfl (fun _ _ h => of_decide_eq_true h) fun _ _ => rfl).or (ops_ii ra rb rfl (fun _ _ h => of_decide_eq_true h) fun _ _ => rfl)
def powOk (i j : Int) : Bool := decide (0 ≤ j) && (decide (j ≤ 1000000) && decide (i.natAbs < 2 ^ 64))
theorem powOk_ok {i j : Int} (h : powOk i j = true) : CPow i j := by
  have h1 := (Bool.and_eq_true _ _).mp h
  have h2 := (Bool.and_eq_true _ _).mp h1.2
  exact ⟨of_decide_eq_true h1.1, of_decide_eq_true h2.1, of_decide_eq_true h2.2⟩
def dPow : OpD := dII powOk fun i j => .int (i ^ j.toNat)
theorem os_pow (ra : ma.rd = true := by rfl) (rb : mb.rd = true := by rfl) : OpS C W (rI CPow fun i j => .int (i ^ j.toNat)) dPow ma mb .fr := ops_ii ra rb rfl (fun _ _ h => powOk_ok h) fun _ _ => rfl
def dShl : OpD := dII powOk fun i j => .int (i * 2 ^ j.toNat)
theorem os_shl (ra : ma.rd = true := by rfl) (rb : mb.rd = true := by rfl) : OpS C W (rI CPow fun i j => .int (i * 2 ^ j.toNat)) dShl ma mb .fr := ops_ii ra rb rfl (fun _ _ h => powOk_ok h) fun _ _ => rfl
def dShr : OpD := dII (fun _ j => decide (0 ≤ j)) fun i j => .int (i / 2 ^ j.toNat)
theorem os_shr (ra : ma.rd = true := by rfl) (rb : mb.rd = true := by rfl) : OpS C W (rI (fun _ j => 0 ≤ j) fun i j => .int (i / 2 ^ j.toNat)) dShr ma mb .fr := ops_ii ra rb rfl (fun _ _ h => of_decide_eq_true h) fun _ _ => rfl
def dAnd : OpD := dII tt2 fun i j => .int (Builtin.bitAnd i j)
theorem os_and (ra : ma.rd = true := by rfl) (rb : mb.rd = true := by rfl) : OpS C W (rI0 fun i j => .int (Builtin.bitAnd i j)) dAnd ma mb .fr := ops_ii0 ra rb rfl fun _ _ => rfl
def dOr : OpD := dII tt2 fun i j => .int (Builtin.bitOr i j)
theorem os_or (ra : ma.rd = true := by rfl) (rb : mb.rd = true := by rfl) : OpS C W (rI0 fun i j => .int (Builtin.bitOr i j)) dOr ma mb .fr := ops_ii0 ra rb rfl fun _ _ => rfl
def dXor : OpD := dII tt2 fun i j => .int (Builtin.bitXor i j)
theorem os_xor (ra : ma.rd = true := by rfl) (rb : mb.rd = true := by rfl) : OpS C W (rI0 fun i j => .int (Builtin.bitXor i j)) dXor ma mb .fr := ops_ii0 ra rb rfl fun _ _ => rfl
/-- [e] * n -/
def dRep : OpD := fun x y => match x, y with
  | .lst xs, .int k => if xs.length * k.toNat ≤ sizeLine ∧ -(2 ^ 63) ≤ k ∧ k < 2 ^ 63 then .ok (.lst (List.replicate k.toNat xs).flatten) else .stuck
  | _, _ => .stuck
theorem Alls.flat {R : DV → V → List Addr → Prop} {ds : List DV} {vs : List V} (h : Alls R ds vs []) : ∀ n : Nat, Alls R (List.replicate n ds).flatten (List.replicate n vs).flatten []
  | 0 => ⟨rfl, rfl⟩
  | n + 1 => by
    rw [List.replicate_succ, List.replicate_succ, List.flatten_cons, List.flatten_cons]
    exact h.append (Alls.flat h n)
theorem os_rep (rb : mb.rd = true := by rfl) : OpS C W rRep dRep (.own .fr) mb (.own .fr) := by
  intro Γ F H σ ρ L x y dx dy Q r k
  have hy := r.da rb
  obtain ⟨f, hx⟩ := r.tail.head
  unfold dRep at k
  split at k
  · rename_i xs j
    unfold At at hx
    rw [if_pos (show isLD (.lst xs) = true from rfl)] at hx
    obtain ⟨a, vs, o, fc, h1, h2, h3, h4, h5, h6, h7⟩ := hx
    obtain rfl : o = .lst vs := h5
    have h8 : Alls (At C F H .fr) xs vs [] := h7.pt fun d v f x => ⟨rfl, x.2⟩
    split at k
    · rename_i hz
      refine ⟨a, j, vs, h1, hy, h4, hz.2.1, hz.2.2, by rw [← h8.length]; exact hz.1, fun p np => ?_⟩
      exact k F _ _ (Same.refl _) (same_upd np) (r.tail.tail.newl np (h8.flat _))
    · exact k.elim
  · exact k.elim

/-! ### comparisons -/
def dLt : OpD := dII tt2 fun i j => .bl (decide (i < j))
def dLe : OpD := dII tt2 fun i j => .bl (decide (i ≤ j))
def dGt : OpD := dII tt2 fun i j => .bl (decide (j < i))
def dGe : OpD := dII tt2 fun i j => .bl (decide (j ≤ i))
theorem os_lt (ra : ma.rd = true := by rfl) (rb : mb.rd = true := by rfl) : OpS C W (rI0 fun i j => .bl (decide (i < j))) dLt ma mb .fr := ops_ii0 ra rb rfl fun _ _ => rfl
theorem os_le (ra : ma.rd = true := by rfl) (rb : mb.rd = true := by rfl) : OpS C W (rI0 fun i j => .bl (decide (i ≤ j))) dLe ma mb .fr := ops_ii0 ra rb rfl fun _ _ => rfl
theorem os_gt (ra : ma.rd = true := by rfl) (rb : mb.rd = true := by rfl) : OpS C W (rI0 fun i j => .bl (decide (j < i))) dGt ma mb .fr := ops_ii0 ra rb rfl fun _ _ => rfl
theorem os_ge (ra : ma.rd = true := by rfl) (rb : mb.rd = true := by rfl) : OpS C W (rI0 fun i j => .bl (decide (j ≤ i))) dGe ma mb .fr := ops_ii0 ra rb rfl fun _ _ => rfl
def isNonD : DV → Bool
  | .non => true
  | _ => false
def dIsN : OpD := fun x y => match y with
  | .non => .ok (.bl (isNonD x))
  | _ => .stuck
def dNotN : OpD := fun x y => match y with
  | .non => .ok (.bl (!isNonD x))
  | _ => .stuck
theorem da_non {K : PySem.W.Frag} {mg : Str → Option Value} {d : DV} {v : V} (h : DA K mg H d v) : decide (v = .non) = isNonD d := by
  cases d with
  | non => cases h; rfl
  | bl b => cases h; rfl
  | int i => cases h; rfl
  | str x => cases h; rfl
  | tup ds => obtain ⟨a, vs, rfl, _⟩ := h; rfl
  | lst ds => obtain ⟨a, vs, rfl, _⟩ := h; rfl
  | dct ks ds => obtain ⟨a, vs, rfl, _⟩ := h; rfl
  | obj c ns ds => obtain ⟨a, vs, rfl, _⟩ := h; rfl
abbrev rIsN : R2 := fun x y H Q => y = .non ∧ Q (.bl (decide (x = .non))) H
abbrev rNotN : R2 := fun x y H Q => y = .non ∧ Q (.bl (!decide (x = .non))) H
theorem os_isN (ra : ma.rd = true := by rfl) (rb : mb.rd = true := by rfl) : OpS C W rIsN dIsN ma mb .fr := by
  intro Γ F H σ ρ L x y dx dy Q r k
  obtain ⟨h1, h2⟩ := r.da2 ra rb
  unfold dIsN at k
  split at k
  · refine ⟨h2, ?_⟩
    rw [da_non h1]
    exact k.flat r.tail.tail rfl rfl
  · exact k.elim
theorem os_notN (ra : ma.rd = true := by rfl) (rb : mb.rd = true := by rfl) : OpS C W rNotN dNotN ma mb .fr := by
  intro Γ F H σ ρ L x y dx dy Q r k
  obtain ⟨h1, h2⟩ := r.da2 ra rb
  unfold dNotN at k
  split at k
  · refine ⟨h2, ?_⟩
    rw [da_non h1]
    exact k.flat r.tail.tail rfl rfl
  · exact k.elim
/-! equality -/
mutual
def py : DV → PyData
  | .non => .none
  | .bl b => .bool b
  | .int i => .int i
  | .str x => .str x
  | .tup ds => .tuple (pys ds)
  | .lst ds => .list (pys ds)
  | .dct _ _ => .none
  | .obj _ _ _ => .none
def pys : List DV → List PyData
  | [] => []
  | d :: ds => py d :: pys ds
end
mutual
def eqok : DV → Nat → Bool
  | .non, _ => true
  | .bl _, _ => true
  | .int _, _ => true
  | .str x, _ => PyData.strOk x
  | .tup ds, n => match n with
    | 0 => false
    | n + 1 => eqoks ds n
  | .lst ds, n => match n with
    | 0 => false
    | n + 1 => eqoks ds n
  | .dct _ _, _ => false
  | .obj _ _ _, _ => false
def eqoks : List DV → Nat → Bool
  | [], _ => true
  | d :: ds, n => eqok d n && eqoks ds n
end
mutual
theorem eqok_ok : ∀ (d : DV) (n : Nat), eqok d n = true → (py d).canLay0 = true ∧ (py d).depth ≤ n
  | .non, _, _ => ⟨rfl, Nat.zero_le _⟩
  | .bl _, _, _ => ⟨rfl, Nat.zero_le _⟩
  | .int _, _, _ => ⟨rfl, Nat.zero_le _⟩
  | .str _, _, h => ⟨h, Nat.zero_le _⟩
  | .tup ds, 0, h => by cases h
  | .tup ds, n + 1, h => by
    obtain ⟨h1, h2⟩ := eqoks_ok ds n h
    exact ⟨h1, Nat.succ_le_succ h2⟩
  | .lst ds, 0, h => by cases h
  | .lst ds, n + 1, h => by
    obtain ⟨h1, h2⟩ := eqoks_ok ds n h
    exact ⟨h1, Nat.succ_le_succ h2⟩
  | .dct _ _, _, h => by cases h
  | .obj _ _ _, _, h => by cases h
theorem eqoks_ok : ∀ (ds : List DV) (n : Nat), eqoks ds n = true → PyData.canLayAll0 (pys ds) = true ∧ PyData.depthAll (pys ds) ≤ n
  | [], _, _ => ⟨rfl, Nat.zero_le _⟩
  | d :: ds, n, h => by
    obtain ⟨h1, h2⟩ := (Bool.and_eq_true _ _).mp (show (eqok d n && eqoks ds n) = true from h)
    obtain ⟨a1, a2⟩ := eqok_ok d n h1
    obtain ⟨b1, b2⟩ := eqoks_ok ds n h2
    refine ⟨(Bool.and_eq_true _ _).mpr ⟨a1, b1⟩, Nat.max_le.mpr ⟨a2, b2⟩⟩
end
mutual
theorem da_dp {K : PySem.W.Frag} {mg : Str → Option Value} : ∀ (d : DV) (n : Nat) (v : V), eqok d n = true → DA K mg H d v → Dp K H v (py d)
  | .non, _, _, _, h => by cases h; exact .non
  | .bl _, _, _, _, h => by cases h; exact .bl _
  | .int _, _, _, _, h => by cases h; exact .int _
  | .str _, _, _, _, h => by cases h; exact .str _
  | .tup ds, 0, _, q, _ => by cases q
  | .tup ds, n + 1, _, q, h => by
    obtain ⟨a, vs, rfl, h2, h3⟩ := h
    exact .tup h2 (das_dp ds n vs q h3)
  | .lst ds, 0, _, q, _ => by cases q
  | .lst ds, n + 1, _, q, h => by
    obtain ⟨a, vs, rfl, h2, h3⟩ := h
    exact .lst (.inl h2) (das_dp ds n vs q h3)
  | .dct _ _, _, _, q, _ => by cases q
  | .obj _ _ _, _, _, q, _ => by cases q
theorem das_dp {K : PySem.W.Frag} {mg : Str → Option Value} : ∀ (ds : List DV) (n : Nat) (vs : List V), eqoks ds n = true → DAs K mg H ds vs → DpAll K H vs (pys ds)
  | [], _, _, _, h => by cases h; exact .nil
  | d :: ds, n, _, q, h => by
    obtain ⟨v, r, rfl, h2, h3⟩ := h
    obtain ⟨q1, q2⟩ := (Bool.and_eq_true _ _).mp (show (eqok d n && eqoks ds n) = true from q)
    exact .cons (da_dp d n v q1 h2) (das_dp ds n r q2 h3)
end
def eqv (x y : DV) : Bool := PyData.eqv (py x) (py y)
def dEq : OpD := fun x y => if (eqok x 20 && eqok y 20) = true then .ok (.bl (eqv x y)) else .stuck
def dNe : OpD := fun x y => if (eqok x 20 && eqok y 20) = true then .ok (.bl (!eqv x y)) else .stuck
theorem shaped_ok {d : DV} (h : eqok d 20 = true) : SeqAt.shaped (py d) = true := by
  obtain ⟨h1, h2⟩ := eqok_ok d 20 h
  unfold SeqAt.shaped
  rw [h1]
  exact decide_eq_true (Nat.le_trans h2 (by decide))
theorem os_eq (ra : ma.rd = true := by rfl) (rb : mb.rd = true := by rfl) : OpS C W (rEqD C.K) dEq ma mb .fr := by
  intro Γ F H σ ρ L x y dx dy Q r k
  obtain ⟨h1, h2⟩ := r.da2 ra rb
  unfold dEq at k
  split at k
  · rename_i q
    obtain ⟨q1, q2⟩ := (Bool.and_eq_true _ _).mp q
    exact ⟨py dx, py dy, da_dp dx 20 x q1 h1, da_dp dy 20 y q2 h2, shaped_ok q1, shaped_ok q2, k.flat r.tail.tail rfl rfl⟩
  · exact k.elim
theorem os_ne (ra : ma.rd = true := by rfl) (rb : mb.rd = true := by rfl) : OpS C W (rNeD C.K) dNe ma mb .fr := by
  intro Γ F H σ ρ L x y dx dy Q r k
  obtain ⟨h1, h2⟩ := r.da2 ra rb
  unfold dNe at k
  split at k
  · rename_i q
    obtain ⟨q1, q2⟩ := (Bool.and_eq_true _ _).mp q
    exact ⟨py dx, py dy, da_dp dx 20 x q1 h1, da_dp dy 20 y q2 h2, shaped_ok q1, shaped_ok q2, k.flat r.tail.tail rfl rfl⟩
  · exact k.elim
/-! membership -/
def flats : List DV → Option (List V)
  | [] => some []
  | d :: ds => match flat d, flats ds with
    | some v, some vs => some (v :: vs)
    | _, _ => none
theorem flats_ok {K : PySem.W.Frag} {mg : Str → Option Value} : ∀ {ds : List DV} {vs ws : List V}, flats ds = some ws → DAs K mg H ds vs → vs = ws
  | [], vs, ws, h, k => by cases h; exact k
  | d :: ds, vs, ws, h, ⟨v, r, e, h1, h2⟩ => by
    unfold flats at h
    split at h
    · rename_i w us a b
      cases h
      rw [e, da_flat a h1, flats_ok b h2]
    · cases h
theorem flat_flat {d : DV} {v : V} (h : flat d = some v) : flatV v = true := by
  cases d <;> first | cases h; rfl | cases h
theorem flats_flat : ∀ {ds : List DV} {ws : List V}, flats ds = some ws → ws.all flatV = true
  | [], ws, h => by cases h; rfl
  | d :: ds, ws, h => by
    unfold flats at h
    split at h
    · rename_i w us a b
      cases h
      rw [List.all_cons, flat_flat a, flats_flat b]
      rfl
    · cases h
def dInB (x y : DV) : Rs Bool := match y with
  | .lst ys => if (eqok x 20 && eqok (.lst ys) 20) = true then .ok (ys.any fun z => eqv z x) else .stuck
  | .tup ys => match flat x, flats ys with
    | some x, some ys => .ok (inV x ys)
    | _, _ => .stuck
  | _ => .stuck
def dIn : OpD := fun x y => (dInB x y).bind fun b => .ok (.bl b)
def dNotIn : OpD := fun x y => (dInB x y).bind fun b => .ok (.bl (!b))
abbrev rInX (K : PySem.W.Frag) : R2 := rOr (rInD K) (rIn K false)
abbrev rNotInX (K : PySem.W.Frag) : R2 := rOr (rNotInD K) (rIn K true)
theorem op_inX {X : Cx} (hu : X.A.units + 65 < cLine) : OpR X (compareOp .In) (rInX X.K) := OpR_or (op_inD hu) op_in_seq
theorem op_notInX {X : Cx} (hu : X.A.units + 65 < cLine) : OpR X (compareOp .NotIn) (rNotInX X.K) := OpR_or (op_notInD hu) op_notIn_seq
theorem pys_map : ∀ ds : List DV, pys ds = ds.map py
  | [] => rfl
  | d :: ds => by show py d :: pys ds = _; rw [pys_map ds]; rfl
theorem any_pys (ys : List DV) (x : DV) : (pys ys).any (fun z => PyData.eqv z (py x)) = ys.any fun z => eqv z x := by
  rw [pys_map, List.any_map]
  rfl
theorem os_in (ra : ma.rd = true := by rfl) (rb : mb.rd = true := by rfl) : OpS C W (rInX C.K) dIn ma mb .fr := by
  intro Γ F H σ ρ L x y dx dy Q r k
  obtain ⟨h1, h2⟩ := r.da2 ra rb
  unfold dIn dInB at k
  split at k
  · rename_i ys
    split at k
    · rename_i q
      obtain ⟨q1, q2⟩ := (Bool.and_eq_true _ _).mp q
      refine .inl ⟨py dx, pys ys, da_dp dx 20 x q1 h1, da_dp _ 20 y q2 h2, shaped_ok q1, shaped_ok q2, ?_⟩
      rw [any_pys]
      exact k.flat r.tail.tail rfl rfl
    · exact k.elim
  · rename_i ys
    split at k
    · rename_i x' ys' e1 e2
      obtain ⟨a, vs, g1, g2, g3⟩ := h2
      have e3 := flats_ok e2 g3
      have e4 := da_flat e1 h1
      subst e3
      subst e4
      exact .inr ⟨a, _, g1, .inr g2, flat_flat e1, flats_flat e2, k.flat r.tail.tail rfl rfl⟩
    · exact k.elim
  · exact k.elim
theorem os_notIn (ra : ma.rd = true := by rfl) (rb : mb.rd = true := by rfl) : OpS C W (rNotInX C.K) dNotIn ma mb .fr := by
  intro Γ F H σ ρ L x y dx dy Q r k
  obtain ⟨h1, h2⟩ := r.da2 ra rb
  unfold dNotIn dInB at k
  split at k
  · rename_i ys
    split at k
    · rename_i q
      obtain ⟨q1, q2⟩ := (Bool.and_eq_true _ _).mp q
      refine .inl ⟨py dx, pys ys, da_dp dx 20 x q1 h1, da_dp _ 20 y q2 h2, shaped_ok q1, shaped_ok q2, ?_⟩
      rw [any_pys]
      exact k.flat r.tail.tail rfl rfl
    · exact k.elim
  · rename_i ys
    split at k
    · rename_i x' ys' e1 e2
      obtain ⟨a, vs, g1, g2, g3⟩ := h2
      have e3 := flats_ok e2 g3
      have e4 := da_flat e1 h1
      subst e3
      subst e4
      exact .inr ⟨a, _, g1, .inr g2, flat_flat e1, flats_flat e2, k.flat r.tail.tail rfl rfl⟩
    · exact k.elim
  · exact k.elim
end
end DL
end

/-! text DL5 -/
section
set_option maxRecDepth 100000
set_option maxHeartbeats 4000000
/-! the data layer, part 5: tests, built-ins, slices -/
namespace DL
open PySem PySem.Spec PyProof.Rows L2

section
variable {C : Cxt} {W : Wx} {F F' H H' : Hp} {Γ : List Md} {σ : L2.St} {ρ : EnvD} {L : List Ent} {m ma mb mc : Md} {d : DV} {v : V}
theorem Rep.perm (r : Rep C F H Γ σ ρ L) : Rep C F H Γ σ ρ L := r
/-! ### tests -/
def asB : DV → Rs Bool
  | .bl b => .ok b
  | _ => .stuck
def gB (g : GE) : GT := fun ρ => (g ρ).bind asB
theorem st_b {t : TE} {g : GE} (h : SE C W Γ t g m) (q : m.rd = true := by rfl) : ST C W Γ (tB t) (gB g) := by
  intro F H σ ρ L Q hL r k
  show t σ H fun x H1 => ∃ c, x = .bl c ∧ Q c H1
  refine se_thenT h hL r k fun d F1 H1 x s1 s2 r1 k1 => ?_
  have hd := r1.da q
  cases d with
  | bl b => exact ⟨b, hd, k1 F1 H1 (Same.refl _) (Same.refl _) r1.tail⟩
  | _ => exact k1.elim
def asT : DV → Rs Bool
  | .non => .ok false
  | .bl b => .ok b
  | .int i => .ok (i != 0)
  | .lst ds => .ok (!ds.isEmpty)
  | .tup ds => .ok (!ds.isEmpty)
  | _ => .stuck
def gTru (g : GE) : GT := fun ρ => (g ρ).bind asT
theorem isE {ds : List DV} {vs : List V} (h : ds.length = vs.length) : (!ds.isEmpty) = !vs.isEmpty := by
  cases ds <;> cases vs <;> first | rfl | cases h
theorem st_tru {t : TE} {g : GE} (h : SE C W Γ t g m) (q : m.rd = true := by rfl) : ST C W Γ (tTru C.K t) (gTru g) := by
  intro F H σ ρ L Q hL r k
  show t σ H fun x H1 => ∃ c, TruV C.K x H1 c ∧ Q c H1
  refine se_thenT h hL r k fun d F1 H1 x s1 s2 r1 k1 => ?_
  have hd := r1.da q
  have fin : ∀ b, PT' C W Γ F1 H1 σ ρ L Q (.ok b) → Q b H1 := fun b k => k F1 H1 (Same.refl _) (Same.refl _) r1.tail
  cases d with
  | non => cases hd; exact ⟨false, rfl, fin _ k1⟩
  | bl b => cases hd; exact ⟨b, rfl, fin _ k1⟩
  | int i => cases hd; exact ⟨_, rfl, fin _ k1⟩
  | lst ds =>
    obtain ⟨a, vs, rfl, h2, h3⟩ := hd
    exact ⟨_, .inl ⟨vs, .inl h2, isE h3.length⟩, fin _ k1⟩
  | tup ds =>
    obtain ⟨a, vs, rfl, h2, h3⟩ := hd
    exact ⟨_, .inr (.inl ⟨vs, h2, isE h3.length⟩), fin _ k1⟩
  | _ => exact k1.elim
def gAnd (a b : GT) : GT := fun ρ => (a ρ).bind fun c => if c = true then b ρ else .ok false
def gOr (a b : GT) : GT := fun ρ => (a ρ).bind fun c => if c = true then .ok true else b ρ
def gNot (a : GT) : GT := fun ρ => (a ρ).bind fun c => .ok (!c)
theorem st_and {t u : TT} {f g : GT} (h1 : ST C W Γ t f) (h2 : ST C W Γ u g) : ST C W Γ (tAnd t u) (gAnd f g) := by
  intro F H σ ρ L Q hL r k
  show t σ H fun c H1 => if c = true then u σ H1 Q else Q false H1
  refine st_thenT h1 hL r k fun b F1 H1 s1 s2 r1 k1 => ?_
  cases b with
  | true => rw [if_pos rfl] at k1 ⊢; exact h2 F1 H1 σ ρ L Q hL r1 k1
  | false => rw [if_neg Bool.false_ne_true] at k1 ⊢; exact k1 F1 H1 (Same.refl _) (Same.refl _) r1
theorem st_or {t u : TT} {f g : GT} (h1 : ST C W Γ t f) (h2 : ST C W Γ u g) : ST C W Γ (tOr t u) (gOr f g) := by
  intro F H σ ρ L Q hL r k
  show t σ H fun c H1 => if c = true then Q true H1 else u σ H1 Q
  refine st_thenT h1 hL r k fun b F1 H1 s1 s2 r1 k1 => ?_
  cases b with
  | false => rw [if_neg Bool.false_ne_true] at k1 ⊢; exact h2 F1 H1 σ ρ L Q hL r1 k1
  | true => rw [if_pos rfl] at k1 ⊢; exact k1 F1 H1 (Same.refl _) (Same.refl _) r1
theorem st_not {t : TT} {f : GT} (h : ST C W Γ t f) : ST C W Γ (tNot t) (gNot f) := by
  intro F H σ ρ L Q hL r k
  show t σ H fun c H1 => Q (!c) H1
  refine st_thenT h hL r k fun b F1 H1 s1 s2 r1 k1 => ?_
  exact k1 F1 H1 (Same.refl _) (Same.refl _) r1
/-! ### tests as values, choices -/
def gIf (c : GT) (a b : GE) : GE := fun ρ => (c ρ).bind fun z => if z = true then a ρ else b ρ
theorem se_if {t : TT} {ta tb : TE} {f : GT} {ga gb : GE} (h : ST C W Γ t f) (ha : SE C W Γ ta ga m) (hb : SE C W Γ tb gb m) : SE C W Γ (tIf t ta tb) (gIf f ga gb) m := by
  intro F H σ ρ L Q hL r k
  show t σ H fun c H1 => if c = true then ta σ H1 Q else tb σ H1 Q
  refine st_then h hL r k fun b F1 H1 s1 s2 r1 k1 => ?_
  cases b with
  | true => rw [if_pos rfl] at k1 ⊢; exact ha F1 H1 σ ρ L Q hL r1 k1
  | false => rw [if_neg Bool.false_ne_true] at k1 ⊢; exact hb F1 H1 σ ρ L Q hL r1 k1
def gAndV (a b : GE) : GE := fun ρ => ((a ρ).bind asB).bind fun c => if c = true then b ρ else .ok (.bl false)
def gOrV (a b : GE) : GE := fun ρ => ((a ρ).bind asB).bind fun c => if c = true then .ok (.bl true) else b ρ
def gNotV (a : GE) : GE := fun ρ => ((a ρ).bind asB).bind fun c => .ok (.bl (!c))
theorem bind2 {α β γ : Type} (r : Rs α) (f : α → Rs β) (g : β → Rs γ) : (r.bind f).bind g = r.bind fun x => (f x).bind g := by cases r <;> rfl
theorem se_andV {ta tb : TE} {ga gb : GE} (ha : SE C W Γ ta ga ma) (hb : SE C W Γ tb gb m) (qa : ma.rd = true := by rfl) (q : m.rd = true := by rfl) : SE C W Γ (tAndV ta tb) (gAndV ga gb) m := by
  intro F H σ ρ L Q hL r k
  show ta σ H fun x H1 => ∃ c, x = .bl c ∧ if c = true then tb σ H1 Q else Q (.bl false) H1
  unfold gAndV at k
  rw [bind2] at k
  refine se_then ha hL r k fun d F1 H1 x s1 s2 r1 k1 => ?_
  have hd := r1.da qa
  cases d with
  | bl c =>
    refine ⟨c, hd, ?_⟩
    cases c with
    | true => exact hb F1 H1 σ ρ L Q hL r1.tail k1
    | false => exact k1.flat r1.tail q rfl
  | _ => exact k1.elim
theorem se_orV {ta tb : TE} {ga gb : GE} (ha : SE C W Γ ta ga ma) (hb : SE C W Γ tb gb m) (qa : ma.rd = true := by rfl) (q : m.rd = true := by rfl) : SE C W Γ (tOrV ta tb) (gOrV ga gb) m := by
  intro F H σ ρ L Q hL r k
  show ta σ H fun x H1 => ∃ c, x = .bl c ∧ if c = true then Q (.bl true) H1 else tb σ H1 Q
  unfold gOrV at k
  rw [bind2] at k
  refine se_then ha hL r k fun d F1 H1 x s1 s2 r1 k1 => ?_
  have hd := r1.da qa
  cases d with
  | bl c =>
    refine ⟨c, hd, ?_⟩
    cases c with
    | false => exact hb F1 H1 σ ρ L Q hL r1.tail k1
    | true => exact k1.flat r1.tail q rfl
  | _ => exact k1.elim
theorem se_notV {ta : TE} {ga : GE} (ha : SE C W Γ ta ga ma) (qa : ma.rd = true := by rfl) : SE C W Γ (tNotV ta) (gNotV ga) .fr := by
  intro F H σ ρ L Q hL r k
  show ta σ H fun x H1 => ∃ c, x = .bl c ∧ Q (.bl (!c)) H1
  unfold gNotV at k
  rw [bind2] at k
  refine se_then ha hL r k fun d F1 H1 x s1 s2 r1 k1 => ?_
  have hd := r1.da qa
  cases d with
  | bl c => exact ⟨c, hd, k1.flat r1.tail rfl rfl⟩
  | _ => exact k1.elim
/-- not x of a test -/
def gNotT (f : GT) : GE := fun ρ => (f ρ).bind fun c => .ok (.bl (!c))
/-! a < b < c -/
def gChain (op op' : OpD) (ga gb gc : GE) : GE := fun ρ => (ga ρ).bind fun x => (gb ρ).bind fun y => (op x y).bind fun z => (asB z).bind fun k => if k = true then (gc ρ).bind fun w => op' y w else .ok (.bl false)
theorem se_chain {r r' : R2} {op op' : OpD} {ta tb tc : TE} {ga gb gc : GE} (ho : OpS C W r op ma mb .fr) (ho' : OpS C W r' op' mb mc .fr) (ha : SE C W Γ ta ga ma) (hb : SE C W Γ tb gb mb) (hc : SE C W Γ tc gc mc) (qa : ma.free = true := by rfl) (qb : mb.free = true := by rfl) :
    SE C W Γ (tChain r r' ta tb tc) (gChain op op' ga gb gc) .fr := by
  intro F H σ ρ L Q hL r0 k
  show ta σ H fun x H1 => tb σ H1 fun y H2 => r x y H2 fun z H3 => ∃ k, z = .bl k ∧ (if k = true then tc σ H3 fun w' H4 => r' y w' H4 Q else Q (.bl false) H3)
  refine se_then ha hL r0 k fun dx F1 H1 x s1 s2 r1 k1 => ?_
  refine se_then hb (okL_cons (show (ma.stor || ma.free) = true by rw [qa, Bool.or_true]) hL) r1 k1 fun dy F2 H2 y s3 s4 r2 k2 => ?_
  have ay := r2.free qb
  have ax := r2.tail.free qa
  have r3 : Rep C F2 H2 Γ σ ρ ((mb, dy, y) :: (ma, dx, x) :: (mb, dy, y) :: L) := by
    have q0 := r2.tail.tail
    exact ((q0.cons0 ay).cons0 ax).cons0 ay
  refine ho Γ F2 H2 σ ρ _ x y dx dy _ r3 ?_
  revert k2
  cases op dx dy with
  | stuck => exact fun k => k
  | ex c d => exact fun k => k
  | ok dz =>
    intro k2 F3 H3 z s5 s6 r4
    have hz := r4.da rfl
    cases dz with
    | bl b =>
      refine ⟨b, hz, ?_⟩
      have k3 := k2.mono s5 s6
      cases b with
      | false => exact k3.flat r4.tail.tail rfl rfl
      | true =>
        rw [if_pos rfl]
        refine se_then hc (okL_cons (show (mb.stor || mb.free) = true by rw [qb, Bool.or_true]) hL) r4.tail (show PE' C W Γ F3 H3 σ ρ L .fr Q ((gc ρ).bind fun w => op' dy w) from k3) fun dw F4 H4 w s7 s8 r5 k4 => ?_
        exact ho' Γ F4 H4 σ ρ L y w dy dw Q r5 k4
    | _ => exact k2.elim
/-! unary -/
def dNeg : DV → Rs DV
  | .int i => .ok (.int (-i))
  | _ => .stuck
def gUn (f : DV → Rs DV) (g : GE) : GE := fun ρ => (g ρ).bind f
theorem se_neg {t : TE} {g : GE} (h : SE C W Γ t g m) (q : m.rd = true := by rfl) : SE C W Γ (tUn (rU fun i => .int (-i)) t) (gUn dNeg g) .fr := by
  intro F H σ ρ L Q hL r k
  show t σ H fun x H1 => ∃ i, x = .int i ∧ Q (.int (-i)) H1
  refine se_then h hL r k fun d F1 H1 x s1 s2 r1 k1 => ?_
  have hd := r1.da q
  cases d with
  | int i => exact ⟨i, hd, k1.flat r1.tail rfl rfl⟩
  | _ => exact k1.elim

/-! ### calls of built-ins -/
abbrev OpA := List DV → Rs DV
abbrev RA := List V → Hp → VK → Prop
def CallS (C : Cxt) (W : Wx) (r : RA) (op : OpA) (ms : List Md) (m : Md) : Prop :=
  ∀ Γ F H σ ρ L vs ds Q, ds.length = vs.length → ms.length = vs.length → Rep C F H Γ σ ρ (entsA ms ds vs L) → PE' C W Γ F H σ ρ L m Q (op ds) → r vs H Q
def gCB (op : OpA) (g : GA) : GE := fun ρ => (g ρ).bind op
theorem se_cb {r : RA} {op : OpA} {ms : List Md} {t : TA} {g : GA} (ho : CallS C W r op ms m) (h : SA C W Γ t g ms) : SE C W Γ (tCB r t) (gCB op g) m := by
  intro F H σ ρ L Q hL r0 k
  show t σ H fun vs H1 => r vs H1 Q
  refine sa_then h hL r0 k fun ds F1 H1 vs s1 s2 e1 e2 r1 k1 => ?_
  exact ho Γ F1 H1 σ ρ L vs ds Q e1 e2 r1 k1
/-- one argument -/
theorem call1 {r : RA} {op : OpA} (h : ∀ Γ F H σ ρ L x dx Q, Rep C F H Γ σ ρ ((ma, dx, x) :: L) → PE' C W Γ F H σ ρ L m Q (op [dx]) → r [x] H Q) : CallS C W r op [ma] m := by
  intro Γ F H σ ρ L vs ds Q e1 e2 r0 k
  match vs, ds, e1, e2, r0, k with
  | [x], [dx], _, _, r0, k => exact h Γ F H σ ρ L x dx Q r0 k
theorem call2 {r : RA} {op : OpA} (h : ∀ Γ F H σ ρ L x y dx dy Q, Rep C F H Γ σ ρ ((mb, dy, y) :: (ma, dx, x) :: L) → PE' C W Γ F H σ ρ L m Q (op [dx, dy]) → r [x, y] H Q) : CallS C W r op [ma, mb] m := by
  intro Γ F H σ ρ L vs ds Q e1 e2 r0 k
  match vs, ds, e1, e2, r0, k with
  | [x, y], [dx, dy], _, _, r0, k => exact h Γ F H σ ρ L x y dx dy Q r0 k
def raOr (a b : RA) : RA := fun vs H Q => a vs H Q ∨ b vs H Q
theorem CallR_or {X : Cx} {f : Value} {a b : RA} (h1 : CallR X f a) (h2 : CallR X f b) : CallR X f (raOr a b) := fun pins s σ H xs us Q I r h => h.elim (h1 pins s σ H xs us Q I r) (h2 pins s σ H xs us Q I r)
/-! len -/
def dLen : OpA
  | [.lst ds] => .ok (.int ds.length)
  | [.tup ds] => .ok (.int ds.length)
  | [.dct ks _] => .ok (.int ks.length)
  | [.str z] => if z.length ≤ sizeLine then .ok (.int z.length) else .stuck
  | _ => .stuck
abbrev rLenSeq (K : PySem.W.Frag) : RA := fun xs H Q => ∃ p ys, xs = [.ref p] ∧ (SqL K H p ys ∨ SqT K H p ys) ∧ Q (.int ys.length) H
abbrev rLenStr : RA := fun xs H Q => ∃ z, xs = [.str z] ∧ z.length ≤ sizeLine ∧ Q (.int z.length) H
abbrev rLenDct : RA := fun xs H Q => ∃ a kvs, xs = [V.ref a] ∧ H a = some (.dK kvs) ∧ Q (.int kvs.length) H
abbrev rLenX (K : PySem.W.Frag) : RA := raOr (rLenSeq K) (raOr rLenStr rLenDct)
theorem call_lenX {X : Cx} : CallR X (.builtin "len") (rLenX X.K) := CallR_or call_len_seq (CallR_or call_len_str call_lenD)
theorem cs_len (q : ma.ixok = true := by rfl) : CallS C W (rLenX C.K) dLen [ma] .fr := call1 fun Γ F H σ ρ L x dx Q r k => by
  cases dx with
  | lst ds =>
    obtain ⟨a, vs, h1, h2, h3⟩ := r.items q
    subst h1
    refine .inl ⟨a, vs, rfl, .inl h2.1, ?_⟩
    rw [← h3.length]
    exact k.flat r.tail rfl rfl
  | tup ds =>
    obtain ⟨a, vs, h1, h2, h3⟩ := r.parts q
    subst h1
    refine .inl ⟨a, vs, rfl, .inr h2, ?_⟩
    rw [← h3.length]
    exact k.flat r.tail rfl rfl
  | dct ks ds =>
    have hd : DA C.K C.mg H (.dct ks ds) x := r.daX q (fun _ h => by cases h)
    obtain ⟨a, vs, rfl, ⟨h2, h4⟩, h3⟩ := hd
    refine .inr (.inr ⟨a, _, rfl, h2, ?_⟩)
    rw [List.length_zip, ← h4, Nat.min_self]
    exact k.flat r.tail rfl rfl
  | str z =>
    obtain rfl : x = .str z := r.daX q (fun _ h => by cases h)
    revert k
    show PE' C W Γ F H σ ρ L .fr Q (if z.length ≤ sizeLine then .ok (.int z.length) else .stuck) → _
    split
    · rename_i hz
      exact fun k => .inr (.inl ⟨z, rfl, hz, k.flat r.tail rfl rfl⟩)
    · exact fun k => k.elim
  | _ => exact k.elim
end
end DL
end

/-! text DL6 -/
section
set_option maxRecDepth 100000
set_option maxHeartbeats 4000000
/-! the data layer, part 6: built-ins, slices -/
namespace DL
open PySem PySem.Spec PyProof.Rows L2
section
variable {C : Cxt} {W : Wx} {F F' H H' : Hp} {Γ : List Md} {σ : L2.St} {ρ : EnvD} {L : List Ent} {m ma mb mc : Md} {d : DV} {v : V}
/-! lists of iLst, of truth values -/
def iLst : List DV → Option (List Int)
  | [] => some []
  | .int i :: ds => (iLst ds).map (i :: ·)
  | _ :: _ => none
def bls : List DV → Option (List Bool)
  | [] => some []
  | .bl b :: ds => (bls ds).map (b :: ·)
  | _ :: _ => none
theorem ints_ok : ∀ {ds : List DV} {ns : List Int}, iLst ds = some ns → ds = ns.map DV.int
  | [], ns, h => by cases h; rfl
  | .int i :: ds, ns, h => by
    unfold iLst at h
    cases e : iLst ds with
    | none => rw [e] at h; cases h
    | some r => rw [e] at h; cases h; rw [ints_ok e]; rfl
  | .non :: _, _, h => by cases h
  | .bl _ :: _, _, h => by cases h
  | .str _ :: _, _, h => by cases h
  | .tup _ :: _, _, h => by cases h
  | .lst _ :: _, _, h => by cases h
  | .dct _ _ :: _, _, h => by cases h
  | .obj _ _ _ :: _, _, h => by cases h
theorem bls_ok : ∀ {ds : List DV} {ns : List Bool}, bls ds = some ns → ds = ns.map DV.bl
  | [], ns, h => by cases h; rfl
  | .bl i :: ds, ns, h => by
    unfold bls at h
    cases e : bls ds with
    | none => rw [e] at h; cases h
    | some r => rw [e] at h; cases h; rw [bls_ok e]; rfl
  | .non :: _, _, h => by cases h
  | .int _ :: _, _, h => by cases h
  | .str _ :: _, _, h => by cases h
  | .tup _ :: _, _, h => by cases h
  | .lst _ :: _, _, h => by cases h
  | .dct _ _ :: _, _, h => by cases h
  | .obj _ _ _ :: _, _, h => by cases h
theorem ints_map (ns : List Int) : iLst (ns.map DV.int) = some ns := by
  induction ns with
  | nil => rfl
  | cons n ns ih => show (iLst (ns.map DV.int)).map (n :: ·) = _; rw [ih]; rfl
theorem bls_map (ns : List Bool) : bls (ns.map DV.bl) = some ns := by
  induction ns with
  | nil => rfl
  | cons n ns ih => show (bls (ns.map DV.bl)).map (n :: ·) = _; rw [ih]; rfl
theorem At.int1 {i : Int} {fp : List Addr} (h : At C F H m (.int i) v fp) : v = .int i := by
  cases m with
  | fr => exact h.2
  | bo => exact h.2
  | sc => obtain ⟨_, a, ns, _, h2, _⟩ := h; cases h2
  | pk m => unfold At at h; rw [if_neg (by exact Bool.false_ne_true)] at h; exact h.2
  | tu m => unfold At at h; rw [if_neg (by exact Bool.false_ne_true)] at h; exact h.2
  | po m => unfold At at h; rw [if_neg (by exact Bool.false_ne_true)] at h; exact h.2
  | own m => unfold At at h; rw [if_neg (by exact Bool.false_ne_true)] at h; exact h.2
  | ob m => unfold At at h; rw [if_neg (by exact Bool.false_ne_true)] at h; exact h.2
theorem At.bl1 {i : Bool} {fp : List Addr} (h : At C F H m (.bl i) v fp) : v = .bl i := by
  cases m with
  | fr => exact h.2
  | bo => exact h.2
  | sc => obtain ⟨_, a, ns, _, h2, _⟩ := h; cases h2
  | pk m => unfold At at h; rw [if_neg (by exact Bool.false_ne_true)] at h; exact h.2
  | tu m => unfold At at h; rw [if_neg (by exact Bool.false_ne_true)] at h; exact h.2
  | po m => unfold At at h; rw [if_neg (by exact Bool.false_ne_true)] at h; exact h.2
  | own m => unfold At at h; rw [if_neg (by exact Bool.false_ne_true)] at h; exact h.2
  | ob m => unfold At at h; rw [if_neg (by exact Bool.false_ne_true)] at h; exact h.2
theorem Alls.iLst : ∀ {ns : List Int} {vs : List V} {fp : List Addr}, Alls (At C F H m) (ns.map DV.int) vs fp → vs = ns.map V.int
  | [], _, _, h => h.1
  | n :: ns, _, _, ⟨v, r, f1, f2, h1, h2, h3, h4⟩ => by rw [h1, h3.int1, Alls.iLst h4]; rfl
theorem Alls.bls : ∀ {ns : List Bool} {vs : List V} {fp : List Addr}, Alls (At C F H m) (ns.map DV.bl) vs fp → vs = ns.map V.bl
  | [], _, _, h => h.1
  | n :: ns, _, _, ⟨v, r, f1, f2, h1, h2, h3, h4⟩ => by rw [h1, h3.bl1, Alls.bls h4]; rfl
theorem Rep.newInts {ns : List Int} {p : Addr} (r : Rep C F H Γ σ ρ L) (np : H p = none) : Rep C F (upd H p (.lst (ns.map V.int))) Γ σ ρ ((.own .fr, .lst (ns.map .int), .ref p) :: L) := by
  refine r.newl np ?_
  induction ns with
  | nil => exact ⟨rfl, rfl⟩
  | cons n ns ih => exact ⟨.int n, _, [], [], rfl, rfl, ⟨rfl, rfl⟩, ih⟩
/-! int(x), abs(x), max(x, y), min(x, y), gcd(x, y) -/
def dInt : OpA
  | [.int i] => .ok (.int i)
  | [.bl k] => .ok (.int (if k = true then 1 else 0))
  | _ => .stuck
abbrev rInt : RA := fun xs H Q => (∃ i, xs = [.int i] ∧ Q (.int i) H) ∨ ∃ k, xs = [.bl k] ∧ Q (.int (if k then 1 else 0)) H
theorem cs_int (q : ma.rd = true := by rfl) : CallS C W rInt dInt [ma] .fr := call1 fun Γ F H σ ρ L x dx Q r k => by
  have hd := r.da q
  cases dx with
  | int i => cases hd; exact .inl ⟨i, rfl, k.flat r.tail rfl rfl⟩
  | bl b => cases hd; exact .inr ⟨b, rfl, k.flat r.tail rfl rfl⟩
  | _ => exact k.elim
def dAbs : OpA
  | [.int i] => .ok (.int (if i < 0 then -i else i))
  | _ => .stuck
abbrev rAbs : RA := fun xs H Q => ∃ i, xs = [.int i] ∧ Q (.int (if i < 0 then -i else i)) H
theorem cs_abs (q : ma.rd = true := by rfl) : CallS C W rAbs dAbs [ma] .fr := call1 fun Γ F H σ ρ L x dx Q r k => by
  have hd := r.da q
  cases dx with
  | int i => cases hd; exact ⟨i, rfl, k.flat r.tail rfl rfl⟩
  | _ => exact k.elim
def d2I (g : Int → Int → Int) : OpA
  | [.int i, .int j] => .ok (.int (g i j))
  | _ => .stuck
theorem cs_2I {g : Int → Int → Int} (qa : ma.rd = true := by rfl) (qb : mb.rd = true := by rfl) : CallS C W (fun xs H Q => ∃ i j, xs = [.int i, .int j] ∧ Q (.int (g i j)) H) (d2I g) [ma, mb] .fr := call2 fun Γ F H σ ρ L x y dx dy Q r k => by
  obtain ⟨h1, h2⟩ := r.da2 qa qb
  cases dx with
  | int i =>
    cases dy with
    | int j => cases h1; cases h2; exact ⟨i, j, rfl, k.flat r.tail.tail rfl rfl⟩
    | _ => exact k.elim
  | _ => cases dy <;> exact k.elim
abbrev dMax2 : OpA := d2I fun i j => if j > i then j else i
abbrev dMin2 : OpA := d2I fun i j => if j < i then j else i
abbrev dGcd : OpA := d2I fun a b => ((Nat.gcd a.natAbs b.natAbs : Nat) : Int)
theorem cs_max2 (qa : ma.rd = true := by rfl) (qb : mb.rd = true := by rfl) : CallS C W (fun xs H Q => ∃ i j, xs = [.int i, .int j] ∧ Q (.int (if j > i then j else i)) H) dMax2 [ma, mb] .fr := cs_2I qa qb
theorem cs_min2 (qa : ma.rd = true := by rfl) (qb : mb.rd = true := by rfl) : CallS C W (fun xs H Q => ∃ i j, xs = [.int i, .int j] ∧ Q (.int (if j < i then j else i)) H) dMin2 [ma, mb] .fr := cs_2I qa qb
theorem cs_gcd (qa : ma.rd = true := by rfl) (qb : mb.rd = true := by rfl) : CallS C W rGcd dGcd [ma, mb] .fr := cs_2I qa qb
/-! list(x), tuple(x) -/
def dList : OpA
  | [.lst ds] => .ok (.lst ds)
  | [.tup ds] => .ok (.lst ds)
  | _ => .stuck
abbrev rListOf (K : PySem.W.Frag) : RA := fun xs H Q => ∃ p ys, xs = [.ref p] ∧ (SqL K H p ys ∨ SqT K H p ys) ∧ ∀ l, H l = none → Q (.ref l) (upd H l (.lst ys))
theorem cs_list (q : ma.ixok = true := by rfl) : CallS C W (rListOf C.K) dList [ma] (.own ma.kid) := call1 fun Γ F H σ ρ L x dx Q r k => by
  cases dx with
  | lst ds =>
    obtain ⟨a, vs, h1, h2, h3⟩ := r.items q
    subst h1
    exact ⟨a, vs, rfl, .inl h2.1, fun p np => k F _ _ (Same.refl _) (same_upd np) (r.tail.newl np h3)⟩
  | tup ds =>
    obtain ⟨a, vs, h1, h2, h3⟩ := r.parts q
    subst h1
    exact ⟨a, vs, rfl, .inr h2, fun p np => k F _ _ (Same.refl _) (same_upd np) (r.tail.newl np h3)⟩
  | _ => exact k.elim
/-! sum, any, all, max, min, sorted over one list -/
def dSum : OpA
  | [.lst ds] => match iLst ds with
    | some ns => .ok (.int ns.sum)
    | none => .stuck
  | _ => .stuck
theorem cs_sum (q : ma.ixok = true := by rfl) : CallS C W (rSum C.K) dSum [ma] .fr := call1 fun Γ F H σ ρ L x dx Q r k => by
  cases dx with
  | lst ds =>
    obtain ⟨a, vs, h1, h2, h3⟩ := r.items q
    subst h1
    revert k
    show PE' C W Γ F H σ ρ L .fr Q (match iLst ds with | some ns => .ok (.int ns.sum) | none => .stuck) → _
    cases e : iLst ds with
    | none => exact fun k => k.elim
    | some ns =>
      intro k
      have e2 := ints_ok e
      subst e2
      have e3 := h3.iLst
      subst e3
      exact ⟨a, ns, rfl, h2.1, k.flat r.tail rfl rfl⟩
  | _ => exact k.elim
def dAll : OpA
  | [.lst ds] => match bls ds with
    | some ns => .ok (.bl (ns.all id))
    | none => .stuck
  | _ => .stuck
theorem cs_all (q : ma.ixok = true := by rfl) : CallS C W (rAll C.K) dAll [ma] .fr := call1 fun Γ F H σ ρ L x dx Q r k => by
  cases dx with
  | lst ds =>
    obtain ⟨a, vs, h1, h2, h3⟩ := r.items q
    subst h1
    revert k
    show PE' C W Γ F H σ ρ L .fr Q (match bls ds with | some ns => .ok (.bl (ns.all id)) | none => .stuck) → _
    cases e : bls ds with
    | none => exact fun k => k.elim
    | some ns =>
      intro k
      have e2 := bls_ok e
      subst e2
      have e3 := h3.bls
      subst e3
      exact ⟨a, ns, rfl, h2.1, k.flat r.tail rfl rfl⟩
  | _ => exact k.elim
def dAny : OpA
  | [.lst ds] => match bls ds with
    | some ns => .ok (.bl (ns.any id))
    | none => .stuck
  | _ => .stuck
theorem cs_any (q : ma.ixok = true := by rfl) : CallS C W (rAny C.K) dAny [ma] .fr := call1 fun Γ F H σ ρ L x dx Q r k => by
  cases dx with
  | lst ds =>
    obtain ⟨a, vs, h1, h2, h3⟩ := r.items q
    subst h1
    revert k
    show PE' C W Γ F H σ ρ L .fr Q (match bls ds with | some ns => .ok (.bl (ns.any id)) | none => .stuck) → _
    cases e : bls ds with
    | none => exact fun k => k.elim
    | some ns =>
      intro k
      have e2 := bls_ok e
      subst e2
      have e3 := h3.bls
      subst e3
      exact ⟨a, ns, rfl, h2.1, k.flat r.tail rfl rfl⟩
  | _ => exact k.elim
def maxI : Int → List Int → Int
  | n, [] => n
  | n, x :: xs => maxI (if n < x then x else n) xs
def minI : Int → List Int → Int
  | n, [] => n
  | n, x :: xs => minI (if x < n then x else n) xs
theorem maxI_ge : ∀ (xs : List Int) (n : Int), n ≤ maxI n xs ∧ (∀ y ∈ xs, y ≤ maxI n xs) ∧ (maxI n xs = n ∨ maxI n xs ∈ xs)
  | [], n => ⟨Int.le_refl _, (fun _ h => by cases h), .inl rfl⟩
  | x :: xs, n => by
    obtain ⟨h1, h2, h3⟩ := maxI_ge xs (if n < x then x else n)
    have h4 : n ≤ (if n < x then x else n) ∧ x ≤ (if n < x then x else n) := by split <;> constructor <;> omega
    refine ⟨Int.le_trans h4.1 h1, fun y hy => ?_, ?_⟩
    · rcases List.mem_cons.mp hy with rfl | hy
      · exact Int.le_trans h4.2 h1
      · exact h2 y hy
    · show maxI (if n < x then x else n) xs = n ∨ maxI (if n < x then x else n) xs ∈ x :: xs
      rcases h3 with h3 | h3
      · rw [h3]
        split
        · exact .inr List.mem_cons_self
        · exact .inl rfl
      · exact .inr (List.mem_cons_of_mem _ h3)
theorem minI_le : ∀ (xs : List Int) (n : Int), minI n xs ≤ n ∧ (∀ y ∈ xs, minI n xs ≤ y) ∧ (minI n xs = n ∨ minI n xs ∈ xs)
  | [], n => ⟨Int.le_refl _, (fun _ h => by cases h), .inl rfl⟩
  | x :: xs, n => by
    obtain ⟨h1, h2, h3⟩ := minI_le xs (if x < n then x else n)
    have h4 : (if x < n then x else n) ≤ n ∧ (if x < n then x else n) ≤ x := by split <;> constructor <;> omega
    refine ⟨Int.le_trans h1 h4.1, fun y hy => ?_, ?_⟩
    · rcases List.mem_cons.mp hy with rfl | hy
      · exact Int.le_trans h1 h4.2
      · exact h2 y hy
    · show minI (if x < n then x else n) xs = n ∨ minI (if x < n then x else n) xs ∈ x :: xs
      rcases h3 with h3 | h3
      · rw [h3]
        split
        · exact .inr List.mem_cons_self
        · exact .inl rfl
      · exact .inr (List.mem_cons_of_mem _ h3)
def dMax : OpA
  | [.lst ds] => match iLst ds with
    | some (n :: ns) => .ok (.int (maxI n ns))
    | _ => .stuck
  | _ => .stuck
def dMin : OpA
  | [.lst ds] => match iLst ds with
    | some (n :: ns) => .ok (.int (minI n ns))
    | _ => .stuck
  | _ => .stuck
theorem cs_max (q : ma.ixok = true := by rfl) : CallS C W (rMax C.K) dMax [ma] .fr := call1 fun Γ F H σ ρ L x dx Q r k => by
  cases dx with
  | lst ds =>
    obtain ⟨a, vs, h1, h2, h3⟩ := r.items q
    subst h1
    revert k
    show PE' C W Γ F H σ ρ L .fr Q (match iLst ds with | some (n :: ns) => .ok (.int (maxI n ns)) | _ => .stuck) → _
    cases e : iLst ds with
    | none => exact fun k => k.elim
    | some ns =>
      cases ns with
      | nil => exact fun k => k.elim
      | cons n ns =>
        intro k
        have e2 := ints_ok e
        subst e2
        have e3 := h3.iLst
        subst e3
        refine ⟨a, n :: ns, rfl, h2.1, Nat.succ_pos _, fun z hz hle => ?_⟩
        obtain ⟨g1, g2, g3⟩ := maxI_ge ns n
        have e4 : z = maxI n ns := Int.le_antisymm (by
          rcases List.mem_cons.mp hz with rfl | hz
          · exact g1
          · exact g2 z hz) (by
          rcases g3 with g3 | g3
          · rw [g3]; exact hle _ List.mem_cons_self
          · exact hle _ (List.mem_cons_of_mem _ g3))
        rw [e4]
        exact k.flat r.tail rfl rfl
  | _ => exact k.elim
theorem cs_min (q : ma.ixok = true := by rfl) : CallS C W (rMin C.K) dMin [ma] .fr := call1 fun Γ F H σ ρ L x dx Q r k => by
  cases dx with
  | lst ds =>
    obtain ⟨a, vs, h1, h2, h3⟩ := r.items q
    subst h1
    revert k
    show PE' C W Γ F H σ ρ L .fr Q (match iLst ds with | some (n :: ns) => .ok (.int (minI n ns)) | _ => .stuck) → _
    cases e : iLst ds with
    | none => exact fun k => k.elim
    | some ns =>
      cases ns with
      | nil => exact fun k => k.elim
      | cons n ns =>
        intro k
        have e2 := ints_ok e
        subst e2
        have e3 := h3.iLst
        subst e3
        refine ⟨a, n :: ns, rfl, h2.1, Nat.succ_pos _, fun z hz hle => ?_⟩
        obtain ⟨g1, g2, g3⟩ := minI_le ns n
        have e4 : z = minI n ns := Int.le_antisymm (by
          rcases g3 with g3 | g3
          · rw [g3]; exact hle _ List.mem_cons_self
          · exact hle _ (List.mem_cons_of_mem _ g3)) (by
          rcases List.mem_cons.mp hz with rfl | hz
          · exact g1
          · exact g2 z hz)
        rw [e4]
        exact k.flat r.tail rfl rfl
  | _ => exact k.elim
/-- sorted: put in by order -/
def putI (n : Int) : List Int → List Int
  | [] => [n]
  | x :: xs => if n ≤ x then n :: x :: xs else x :: putI n xs
def sortI : List Int → List Int
  | [] => []
  | x :: xs => putI x (sortI xs)
theorem putI_perm (n : Int) : ∀ xs : List Int, (putI n xs).Perm (n :: xs)
  | [] => List.Perm.refl _
  | x :: xs => by
    unfold putI
    split
    · exact List.Perm.refl _
    · exact ((putI_perm n xs).cons x).trans (List.Perm.swap n x xs)
theorem sortI_perm : ∀ xs : List Int, (sortI xs).Perm xs
  | [] => List.Perm.refl _
  | x :: xs => (putI_perm x _).trans ((sortI_perm xs).cons x)
theorem putI_sorted (n : Int) : ∀ xs : List Int, xs.Pairwise (· ≤ ·) → (putI n xs).Pairwise (· ≤ ·)
  | [], _ => List.pairwise_singleton _ _
  | x :: xs, h => by
    have h1 := List.pairwise_cons.mp h
    unfold putI
    split
    · rename_i q
      refine List.pairwise_cons.mpr ⟨fun y hy => ?_, h⟩
      rcases List.mem_cons.mp hy with rfl | hy
      · exact q
      · exact Int.le_trans q (h1.1 y hy)
    · rename_i q
      refine List.pairwise_cons.mpr ⟨fun y hy => ?_, putI_sorted n xs h1.2⟩
      rcases List.mem_cons.mp ((putI_perm n xs).mem_iff.mp hy) with rfl | hy
      · omega
      · exact h1.1 y hy
theorem sortI_sorted : ∀ xs : List Int, (sortI xs).Pairwise (· ≤ ·)
  | [] => List.Pairwise.nil
  | x :: xs => putI_sorted x _ (sortI_sorted xs)
def dSorted : OpA
  | [.lst ds] => match iLst ds with
    | some ns => .ok (.lst ((sortI ns).map .int))
    | none => .stuck
  | _ => .stuck
theorem cs_sorted (q : ma.ixok = true := by rfl) : CallS C W (rSortedI C.K) dSorted [ma] (.own .fr) := call1 fun Γ F H σ ρ L x dx Q r k => by
  cases dx with
  | lst ds =>
    obtain ⟨a, vs, h1, h2, h3⟩ := r.items q
    subst h1
    revert k
    show PE' C W Γ F H σ ρ L (.own .fr) Q (match iLst ds with | some ns => .ok (.lst ((sortI ns).map .int)) | none => .stuck) → _
    cases e : iLst ds with
    | none => exact fun k => k.elim
    | some ns =>
      intro k
      have e2 := ints_ok e
      subst e2
      have e3 := h3.iLst
      subst e3
      refine ⟨a, ns, rfl, h2.1, fun ns' p pm so np => ?_⟩
      have e4 : ns' = sortI ns := PySem.W.ksm_same (pm.trans (sortI_perm ns).symm) so (sortI_sorted ns)
      subst e4
      exact k F _ _ (Same.refl _) (same_upd np) (r.tail.newInts np)
  | _ => exact k.elim

/-! ### slices -/
abbrev GO := EnvD → Rs (Option Int)
def PO' (C : Cxt) (W : Wx) (Γ : List Md) (F H : Hp) (σ : L2.St) (ρ : EnvD) (L : List Ent) (Q : Option Int → Hp → Prop) : Rs (Option Int) → Prop
  | .ok o => ∀ F' H', Same F F' → Same H H' → Rep C F' H' Γ σ ρ L → Q o H'
  | .ex c d => ∀ F' H', Same F F' → Same H H' → Fit C F' H' → W c d H'
  | .stuck => False
def SO (C : Cxt) (W : Wx) (Γ : List Md) (t : TO) (g : GO) : Prop :=
  ∀ F H σ ρ L Q, okL L → Rep C F H Γ σ ρ L → PO' C W Γ F H σ ρ L Q (g ρ) → t σ H Q
def gNoPart : GO := fun _ => .ok none
def gPart (g : GE) : GO := fun ρ => (g ρ).bind fun d => match d with
  | .int i => .ok (some i)
  | _ => .stuck
theorem so_none : SO C W Γ tNoPart gNoPart := fun F H σ ρ L Q hL r k => k F H (Same.refl _) (Same.refl _) r
theorem so_some {t : TE} {g : GE} (h : SE C W Γ t g m) (q : m.rd = true := by rfl) : SO C W Γ (tPart t) (gPart g) := by
  intro F H σ ρ L Q hL r k
  show t σ H fun x H1 => ∃ i, x = .int i ∧ Q (some i) H1
  refine h F H σ ρ L _ hL r ?_
  unfold gPart at k
  revert k
  cases g ρ with
  | ex c d => exact fun k => k
  | stuck => exact fun k => k
  | ok d =>
    intro k F1 H1 v s1 s2 r1
    have hd := r1.da q
    cases d with
    | int i => exact ⟨i, hd, k F1 H1 s1 s2 r1.tail⟩
    | _ => exact k.elim
theorem so_then {t : TO} {g : GO} {f : Option Int → Rs DV} {Q : VK} {R : Option Int → Hp → Prop} {L2' : List Ent} (ha : SO C W Γ t g) (hL : okL L) (r : Rep C F H Γ σ ρ L) (h : PE' C W Γ F H σ ρ L2' m Q ((g ρ).bind f))
    (k : ∀ b F1 H1, Same F F1 → Same H H1 → Rep C F1 H1 Γ σ ρ L → PE' C W Γ F1 H1 σ ρ L2' m Q (f b) → R b H1) : t σ H R := by
  refine ha F H σ ρ L R hL r ?_
  revert h
  cases g ρ with
  | ok d => exact fun h F1 H1 s1 s2 r1 => k d F1 H1 s1 s2 r1 (h.mono s1 s2)
  | ex c d => exact fun h => h
  | stuck => exact fun h => h
theorem ixok_ok : ∀ {m : Md}, m.ixok = true → (m.stor || m.free) = true
  | .fr, _ => rfl
  | .bo, _ => rfl
  | .sc, _ => rfl
  | .pk m, h => by rw [show (Md.pk m).free = true from fof m h, Bool.or_true]
  | .tu m, h => by rw [show (Md.tu m).free = true from fof m h, Bool.or_true]
  | .po m, h => by rw [show (Md.po m).free = true from fof m h, Bool.or_true]
where fof : ∀ (m : Md), m.fo = true → m.free = true
  | .fr, _ => rfl
  | .pk m, h => fof m h
  | .tu m, h => fof m h
  | .po m, h => fof m h
def cutD (xs : List DV) (lo hi : Option Int) : List DV := (xs.drop (HT.sIx xs.length 0 lo)).take (HT.sIx xs.length xs.length hi - HT.sIx xs.length 0 lo)
def dSl (d : DV) (lo hi : Option Int) : Rs DV := match d with
  | .lst ds => .ok (.lst (cutD ds lo hi))
  | .tup ds => .ok (.tup (cutD ds lo hi))
  | _ => .stuck
abbrev RS := V → Option Int → Option Int → Hp → VK → Prop
def rsOr (a b : RS) : RS := fun x l h H Q => a x l h H Q ∨ b x l h H Q
theorem SlR_or {X : Cx} {a b : RS} (h1 : SlR X a) (h2 : SlR X b) : SlR X (rsOr a b) := fun pins s σ H x v vl vu lo hi sl Q I r i p1 p2 h => h.elim (h1 pins s σ H x v vl vu lo hi sl Q I r i p1 p2) (h2 pins s σ H x v vl vu lo hi sl Q I r i p1 p2)
abbrev rSlX (K : PySem.W.Frag) : RS := rsOr (rSlL K) (rSlA K)
theorem sl_X {X : Cx} : SlR X (rSlX X.K) := SlR_or sl_list sl_tupA
def gSl (g : GE) (lo hi : GO) : GE := fun ρ => (g ρ).bind fun d => (lo ρ).bind fun l => (hi ρ).bind fun u => dSl d l u
theorem Alls.cut {R : DV → V → List Addr → Prop} {ds : List DV} {vs : List V} (h : Alls R ds vs []) (lo hi : Option Int) : Alls R (cutD ds lo hi) (cutV vs lo hi) [] := by
  unfold cutD cutV
  rw [← h.length]
  exact (h.drop _).take _
theorem At.free_pt {ds : List DV} {vs : List V} (q : m.free = true) (h : Alls (At C F H m) ds vs []) : Alls (At C F H m) ds vs [] := h
/-- a slice of a list (a new one), of a tuple whose parts are frozen -/
theorem se_sl {t : TE} {g : GE} {tl th : TO} {gl gh : GO} (ha : SE C W Γ t g ma) (hl : SO C W Γ tl gl) (hh : SO C W Γ th gh) (q : ma.ixok = true := by rfl) (qk : ma.kid = .fr := by rfl) : SE C W Γ (tSl (rSlX C.K) t tl th) (gSl g gl gh) (.own .fr) := by
  intro F H σ ρ L Q hL r0 k
  show t σ H fun x H1 => tl σ H1 fun l H2 => th σ H2 fun u H3 => rSlX C.K x l u H3 Q
  refine se_then ha hL r0 k fun d F1 H1 x s1 s2 r1 k1 => ?_
  refine so_then hl (okL_cons (ixok_ok q) hL) r1 k1 fun l F2 H2 s3 s4 r2 k2 => ?_
  refine so_then hh (okL_cons (ixok_ok q) hL) r2 k2 fun u F3 H3 s5 s6 r3 k3 => ?_
  cases d with
  | lst ds =>
    obtain ⟨a, vs, h1, h2, h3⟩ := r3.items q
    rw [qk] at h3
    exact .inl ⟨a, vs, h1, h2.1, fun p np => k3 F3 _ _ (Same.refl _) (same_upd np) (r3.tail.newl np (h3.cut l u))⟩
  | tup ds =>
    obtain ⟨a, vs, h1, h2, h3⟩ := r3.parts q
    rw [qk] at h3
    have k4 : PE' C W Γ F3 H3 σ ρ L (.own .fr) Q (.ok (.tup (cutD ds l u))) := k3
    have h4 : SqT C.K F3 a vs := tupO_rd r3.fit.tp h2
    have h5 : Alls (At C F3 H3 .fr) (cutD ds l u) (cutV vs l u) [] := h3.cut l u
    refine .inr ⟨a, vs, h1, h2, fun hz => ?_, fun hz p np => ?_⟩
    · have e : cutD ds l u = ds := by
        unfold cutD
        rw [h3.length, hz.1, hz.2, List.drop_zero, Nat.sub_zero, ← h3.length]
        exact List.take_length
      rw [e] at k4
      refine k4.give r3.tail ?_
      unfold At
      rw [if_neg (by exact Bool.false_ne_true)]
      exact ⟨rfl, a, vs, rfl, h4, h3.das fun d v f _ x => x.2⟩
    · obtain ⟨sf, r5⟩ := (show Rep C F3 H3 Γ σ ρ (entsA [] [] [] L) from r3.tail).tuple (m := .fr) (ds := []) (vs := []) (by simp) rfl rfl np
      have np2 := np
      have sh : Same H3 (upd H3 p (.tup (cutV vs l u))) := same_upd np
      have hp : F3 p = none := Same.free r3.fit.fh np
      have sf : Same F3 (upd F3 p (.tup (cutV vs l u))) := same_upd hp
      refine k4 (upd F3 p (.tup (cutV vs l u))) _ _ sf sh ?_
      have r6 : Rep C F3 H3 Γ σ ρ L := r3.tail
      obtain ⟨f1, f2, nd, a1, b1⟩ := r6.own
      have oa := a1.owned
      have ob := b1.owned
      have kp : ∀ x, Owned C F3 H3 x → upd H3 p (.tup (cutV vs l u)) x = H3 x := fun x ⟨_, _, u, e, _⟩ => by rw [upd_ne (ne_of_none e np)]
      have kf : ∀ x, Owned C F3 H3 x → upd F3 p (.tup (cutV vs l u)) x = none := fun x ⟨h, _, u, e, _⟩ => by rw [upd_ne (ne_of_none e np)]; exact h
      refine ⟨⟨r6.fit.ff.trans sf, fun x w e => ?_, r6.fit.bh.trans sh, fun x hx => ?_, fun x w e z => ?_⟩, r6.io, f1, f2, nd, a1.mono sf (fun x hx => kf x (oa x hx)) (fun x hx => kp x (oa x hx)) (.inr sh), [], f2, rfl, ?_, b1.mono sf (fun x hx => kf x (ob x hx)) (fun x hx => kp x (ob x hx)) (.inr sh)⟩
      · by_cases z : x = p
        · subst z; rw [upd_same] at e ⊢; exact e
        · rw [upd_ne z] at e ⊢; exact r6.fit.fh _ _ e
      · by_cases z : x = p
        · subst z; exact .inr (.inl (Same.free r6.fit.bh np))
        · rw [upd_ne z] at hx; exact r6.fit.f0 x hx
      · by_cases y : x = p
        · subst y; rw [upd_same] at e ⊢; exact e
        · rw [upd_ne y] at e ⊢; exact r6.fit.tp x w e z
      · unfold At
        rw [if_neg (by exact Bool.false_ne_true)]
        exact ⟨rfl, p, _, rfl, .inl (.inl upd_same), DAs.mono sf _ _ (h5.das fun d v f _ x => x.2)⟩
  | _ => exact k3.elim
end
end DL
end

/-! text DL7 -/
section
set_option maxRecDepth 100000
set_option maxHeartbeats 4000000
/-! the data layer, part 7: statements, loops -/
namespace DL
open PySem PySem.Spec PyProof.Rows L2
abbrev storL (L : List Ent) : Prop := L.all (fun e => e.1.stor) = true
theorem storL.ok {L : List Ent} (h : storL L) : okL L := fun e he => .inl (List.all_eq_true.mp h e he)
theorem storL_cons {e : Ent} {L : List Ent} (h1 : e.1.stor = true) (h2 : storL L) : storL (e :: L) := by
  show (e.1.stor && L.all fun e => e.1.stor) = true
  rw [h1, h2]
  rfl
def PS' (C : Cxt) (W : Wx) (mr : Md) (Γb Γ : List Md) (F H : Hp) (L : List Ent) (Dn : Ends) : Out → Prop
  | .nx ρ' => ∀ F' H' σ', Same F F' → Rep C F' H' Γ σ' ρ' L → Dn.nx σ' H'
  | .rt d ρ' => ∀ F' H' Γr σ' L' v, Same F F' → Rep C F' H' Γr σ' ρ' ((mr, d, v) :: L') → Dn.rt v H'
  | .bk ρ' => ∀ F' H' σ', Same F F' → Rep C F' H' Γb σ' ρ' L → Dn.bk σ' H'
  | .ct ρ' => ∀ F' H' σ', Same F F' → Rep C F' H' Γb σ' ρ' L → Dn.ct σ' H'
  | .ex c d => ∀ F' H', Same F F' → Fit C F' H' → W c d H'
  | .stuck => False
/-- a statement: the modes turn from Γ to Γ'; Γb: those at break and continue -/
def SS (C : Cxt) (W : Wx) (mr : Md) (Γb Γ : List Md) (t : TS) (g : GS) (Γ' : List Md) : Prop :=
  ∀ F H σ ρ L Dn, storL L → Rep C F H Γ σ ρ L → PS' C W mr Γb Γ' F H L Dn (g ρ) → t Dn σ H
/-- effectful expressions -/
def PX' (C : Cxt) (W : Wx) (Γ : List Md) (F H : Hp) (σ : L2.St) (L : List Ent) (m : Md) (Q : VK) : Rs (DV × EnvD) → Prop
  | .ok (d, ρ') => ∀ F' H' v, Same F F' → Rep C F' H' Γ σ ρ' ((m, d, v) :: L) → Q v H'
  | .ex c d => ∀ F' H', Same F F' → Fit C F' H' → W c d H'
  | .stuck => False
def SX (C : Cxt) (W : Wx) (Γ : List Md) (t : TE) (g : GX) (m : Md) : Prop :=
  ∀ F H σ ρ L Q, storL L → Rep C F H Γ σ ρ L → PX' C W Γ F H σ L m Q (g ρ) → t σ H Q
/-- targets: names alone; is: their slots -/
abbrev GG := DV → EnvD → Rs EnvD
def SN (C : Cxt) (Γ : List Md) (t : TG) (g : GG) (m : Md) (is : List Nat) : Prop :=
  ∀ F H σ ρ L d v ρ' (Q : L2.St → Hp → Prop), Rep C F H Γ σ ρ ((m, d, v) :: L) → g d ρ = .ok ρ' → (∀ σ', (∀ vs : List Nat, (∀ i ∈ is, i ∈ vs) → wipe σ' vs = wipe σ vs) → Rep C F H Γ σ' ρ' L → Q σ' H) → t v σ H Q
section
variable {C : Cxt} {W : Wx} {F F' H H' : Hp} {Γ Γb Γ' Γ2 : List Md} {σ : L2.St} {ρ : EnvD} {L : List Ent} {m ma mb mr : Md} {d : DV} {v : V} {Dn : Ends}
theorem PS'.mono {o : Out} (h : PS' C W mr Γb Γ F H L Dn o) (s : Same F F') : PS' C W mr Γb Γ F' H' L Dn o := by
  cases o with
  | nx ρ' => exact fun F2 H2 σ2 s2 => h F2 H2 σ2 (s.trans s2)
  | rt d ρ' => exact fun F2 H2 Γr σ2 L2 v s2 => h F2 H2 Γr σ2 L2 v (s.trans s2)
  | bk ρ' => exact fun F2 H2 σ2 s2 => h F2 H2 σ2 (s.trans s2)
  | ct ρ' => exact fun F2 H2 σ2 s2 => h F2 H2 σ2 (s.trans s2)
  | ex c d => exact fun F2 H2 s2 => h F2 H2 (s.trans s2)
  | stuck => exact h
theorem PX'.mono {Q : VK} {o : Rs (DV × EnvD)} (h : PX' C W Γ F H σ L m Q o) (s : Same F F') : PX' C W Γ F' H' σ L m Q o := by
  cases o with
  | ok p => exact fun F2 H2 v s2 => h F2 H2 v (s.trans s2)
  | ex c d => exact fun F2 H2 s2 => h F2 H2 (s.trans s2)
  | stuck => exact h
def gPure (g : GE) : GX := fun ρ => (g ρ).bind fun d => .ok (d, ρ)
theorem sx_of {t : TE} {g : GE} (h : SE C W Γ t g m) : SX C W Γ t (gPure g) m := by
  intro F H σ ρ L Q hs r k
  refine h F H σ ρ L Q hs.ok r ?_
  unfold gPure at k
  revert k
  cases g ρ with
  | ok d => exact fun k F1 H1 v s1 s2 r1 => k F1 H1 v s1 r1
  | ex c d => exact fun k F1 H1 s1 s2 f1 => k F1 H1 s1 f1
  | stuck => exact fun k => k
/-- a name's data, moved out of its slot -/
def gMove (i : Nat) : GX := fun ρ => (lk ρ i).bind fun d => .ok (d, ρ.set i none)
theorem sx_move {i : Nat} (e : Γ[i]? = some m) : SX C W Γ (tVar i) (gMove i) m := by
  intro F H σ ρ L Q hs r k
  unfold gMove at k
  rcases lk_cases ρ i with ⟨d, e2, e3⟩ | e3
  · rw [e3] at k
    obtain ⟨v, h1, r1⟩ := r.take e e2
    exact ⟨v, h1, k F H v (Same.refl _) r1⟩
  · rw [e3] at k
    exact k.elim
/-- frozen -/
theorem sx_fr {t : TE} {g : GX} (h : SX C W Γ t g m) (q : m.fz = true) : SX C W Γ t g .fr := by
  intro F H σ ρ L Q hs r k
  refine h F H σ ρ L Q hs r ?_
  revert k
  cases g ρ with
  | ok p =>
    intro k F1 H1 v s1 r1
    obtain ⟨F2, s3, r2⟩ := r1.freeze q
    exact k F2 H1 v (s1.trans s3) r2
  | ex c d => exact fun k => k
  | stuck => exact fun k => k

/-! ### plain statements -/
def gSeq (f g : GS) : GS := fun ρ => match f ρ with
  | .nx ρ' => g ρ'
  | o => o
theorem ss_seq {t u : TS} {f g : GS} (h1 : SS C W mr Γb Γ t f Γ') (h2 : SS C W mr Γb Γ' u g Γ2) : SS C W mr Γb Γ (tSeq t u) (gSeq f g) Γ2 := by
  intro F H σ ρ L Dn hs r k
  show t { Dn with nx := u Dn } σ H
  refine h1 F H σ ρ L _ hs r ?_
  unfold gSeq at k
  revert k
  cases f ρ with
  | nx ρ' => exact fun k F1 H1 σ1 s1 r1 => h2 F1 H1 σ1 ρ' L Dn hs r1 (k.mono s1)
  | rt d ρ' => exact fun k => k
  | bk ρ' => exact fun k => k
  | ct ρ' => exact fun k => k
  | ex c d => exact fun k => k
  | stuck => exact fun k => k
def gNext : GS := fun ρ => .nx ρ
theorem ss_nil : SS C W mr Γb Γ tNext gNext Γ := fun F H σ ρ L Dn hs r k => k F H σ (Same.refl _) r
def gBrk : GS := fun ρ => .bk ρ
def gCnt : GS := fun ρ => .ct ρ
theorem ss_brk : SS C W mr Γ Γ tBreak gBrk Γ' := fun F H σ ρ L Dn hs r k => k F H σ (Same.refl _) r
theorem ss_cnt : SS C W mr Γ Γ tCont gCnt Γ' := fun F H σ ρ L Dn hs r k => k F H σ (Same.refl _) r
def gNever : GS := fun _ => .stuck
theorem ss_never {t : TS} : SS C W mr Γb Γ t gNever Γ' := fun F H σ ρ L Dn hs r k => k.elim
def gIfS (c : GT) (f g : GS) : GS := fun ρ => match c ρ with
  | .ok b => if b = true then f ρ else g ρ
  | .ex c d => .ex c d
  | .stuck => .stuck
theorem ss_if {c : TT} {t u : TS} {gc : GT} {f g : GS} (hc : ST C W Γ c gc) (h1 : SS C W mr Γb Γ t f Γ') (h2 : SS C W mr Γb Γ u g Γ') : SS C W mr Γb Γ (tIfS c t u) (gIfS gc f g) Γ' := by
  intro F H σ ρ L Dn hs r k
  show c σ H fun b H1 => if b = true then t Dn σ H1 else u Dn σ H1
  refine hc F H σ ρ L _ hs.ok r ?_
  unfold gIfS at k
  revert k
  cases gc ρ with
  | ok b =>
    intro k F1 H1 s1 s2 r1
    cases b with
    | true => exact h1 F1 H1 σ ρ L Dn hs r1 (k.mono s1)
    | false => exact h2 F1 H1 σ ρ L Dn hs r1 (k.mono s1)
  | ex c d => exact fun k F1 H1 s1 s2 f1 => k F1 H1 s1 f1
  | stuck => exact fun k => k
def gDrop (g : GX) : GS := fun ρ => match g ρ with
  | .ok (_, ρ') => .nx ρ'
  | .ex c d => .ex c d
  | .stuck => .stuck
theorem ss_expr {t : TE} {g : GX} (h : SX C W Γ t g m) : SS C W mr Γb Γ (tDrop t) (gDrop g) Γ := by
  intro F H σ ρ L Dn hs r k
  show t σ H fun _ H1 => Dn.nx σ H1
  refine h F H σ ρ L _ hs r ?_
  unfold gDrop at k
  revert k
  cases g ρ with
  | ok p => exact fun k F1 H1 v s1 r1 => k F1 H1 σ s1 r1.tail
  | ex c d => exact fun k => k
  | stuck => exact fun k => k
def gRet (g : GX) : GS := fun ρ => match g ρ with
  | .ok (d, ρ') => .rt d ρ'
  | .ex c d => .ex c d
  | .stuck => .stuck
theorem ss_ret {t : TE} {g : GX} (h : SX C W Γ t g mr) : SS C W mr Γb Γ (tRet t) (gRet g) Γ' := by
  intro F H σ ρ L Dn hs r k
  show t σ H Dn.rt
  refine h F H σ ρ L _ hs r ?_
  unfold gRet at k
  revert k
  cases g ρ with
  | ok p => exact fun k F1 H1 v s1 r1 => k F1 H1 Γ σ L v s1 r1
  | ex c d => exact fun k => k
  | stuck => exact fun k => k
def gRetN : GS := fun ρ => .rt .non ρ
theorem ss_retN (q : mr.rd = true := by rfl) : SS C W mr Γb Γ tRetN gRetN Γ' := fun F H σ ρ L Dn hs r k => k F H Γ σ L .non (Same.refl _) (r.cons0 (At.flat q rfl))

/-! ### targets of names -/
def gtName (i : Nat) : GG := fun d ρ => .ok (ρ.set i (some d))
theorem wipe_set (σ : L2.St) (i : Nat) (x : Option V) : ∀ vs : List Nat, i ∈ vs → wipe (σ.set i x) vs = wipe σ vs
  | [], h => by cases h
  | w :: vs, h => by
    show (wipe (σ.set i x) vs).set w none = (wipe σ vs).set w none
    by_cases e : i ∈ vs
    · rw [wipe_set σ i x vs e]
    · have hw : i = w := by
        rcases List.mem_cons.mp h with h | h
        · exact h
        · exact absurd h e
      subst hw
      clear h
      have key : ∀ vs : List Nat, i ∉ vs → wipe (σ.set i x) vs = (wipe σ vs).set i x := by
        intro vs
        induction vs with
        | nil => intro _; rfl
        | cons u vs ih =>
          intro hn
          show (wipe (σ.set i x) vs).set u none = ((wipe σ vs).set u none).set i x
          rw [ih fun z => hn (List.mem_cons_of_mem _ z)]
          have : i ≠ u := fun z => hn (z ▸ List.mem_cons_self)
          exact List.set_comm _ _ this
      rw [key vs e, set_set']
theorem sn_name {i : Nat} (e : Γ[i]? = some m) (hio : ∀ p ∈ C.io, p.1 ≠ i) : SN C Γ (L2.gName i) (gtName i) m [i] := by
  intro F H σ ρ L d v ρ' Q r h k
  cases h
  have l : i < Γ.length := (List.getElem?_eq_some_iff.mp e).1
  have r1 := r.put l hio
  rw [set_id e] at r1
  exact k _ (fun vs hv => wipe_set σ i _ vs (hv i List.mem_cons_self)) r1
def setAll : List Nat → List DV → EnvD → EnvD
  | i :: is, d :: ds, ρ => setAll is ds (ρ.set i (some d))
  | _, _, ρ => ρ
def gtTup (is : List Nat) : GG := fun d ρ => match d with
  | .tup ds => if ds.length = is.length then .ok (setAll is ds ρ) else .stuck
  | _ => .stuck
/-- the names of a tuple's target, one after the other -/
inductive Names : List Nat → TGs → Prop
  | nil : Names [] L2.gNil
  | cons {i : Nat} {is : List Nat} {t : TGs} : Names is t → Names (i :: is) (L2.gCons (L2.gName i) t)
theorem sn_tup {is : List Nat} {t : TGs} (hn : Names is t) (hm : ∀ i ∈ is, Γ[i]? = some m.kid) (hio : ∀ p ∈ C.io, ∀ i ∈ is, p.1 ≠ i) (q : m.ixok = true := by rfl) : SN C Γ (L2.gTup C.K is.length t) (gtTup is) m is := by
  intro F H σ ρ L d v ρ' Q r h k
  cases d with
  | tup ds =>
    obtain ⟨a, vs, h1, h2, h3⟩ := r.parts q
    have h : (if ds.length = is.length then Rs.ok (setAll is ds ρ) else .stuck) = .ok ρ' := h
    split at h
    · rename_i hl
      cases h
      refine ⟨a, vs, h1, h2, by rw [← h3.length]; exact hl, ?_⟩
      have r1 := r.tail
      clear h1 h2 r
      have key : ∀ {is : List Nat} {t : TGs}, Names is t → (∀ i ∈ is, Γ[i]? = some m.kid) → (∀ p ∈ C.io, ∀ i ∈ is, p.1 ≠ i) → ∀ {ds : List DV} {vs : List V} {σ : L2.St} {ρ : EnvD}, ds.length = is.length → Alls (At C F H m.kid) ds vs [] → Rep C F H Γ σ ρ L →
          (∀ σ', (∀ ws : List Nat, (∀ i ∈ is, i ∈ ws) → wipe σ' ws = wipe σ ws) → Rep C F H Γ σ' (setAll is ds ρ) L → Q σ' H) → t vs σ H Q := by
        intro is t hn
        induction hn with
        | nil =>
          intro _ _ ds vs σ ρ hl ha r k
          cases ds with
          | cons d ds => cases hl
          | nil => exact ⟨ha.1, k σ (fun _ _ => rfl) r⟩
        | cons hn ih =>
          rename_i i is t
          intro hm hio ds vs σ ρ hl ha r k
          cases ds with
          | nil => cases hl
          | cons d ds =>
            obtain ⟨w, ws, f1, f2, e1, e2, e3, e4⟩ := ha
            obtain ⟨z1, z2⟩ := List.append_eq_nil_iff.mp e2.symm
            subst z1
            subst z2
            refine ⟨w, ws, e1, ?_⟩
            have ei := hm i List.mem_cons_self
            have l : i < Γ.length := (List.getElem?_eq_some_iff.mp ei).1
            have r2 := (r.cons0 e3).put l fun p hp => hio p hp i List.mem_cons_self
            rw [set_id ei] at r2
            refine ih (fun j hj => hm j (List.mem_cons_of_mem _ hj)) (fun p hp j hj => hio p hp j (List.mem_cons_of_mem _ hj)) (by simpa using hl) e4 r2 fun σ' hw r3 => ?_
            refine k σ' (fun us hu => ?_) r3
            rw [hw us fun j hj => hu j (List.mem_cons_of_mem _ hj)]
            exact wipe_set σ i _ us (hu i List.mem_cons_self)
      exact key hn hm hio hl h3 r1 k
    · cases h
  | _ => cases h
/-! ### x = e -/
def gAsg (g : GX) (tg : GG) : GS := fun ρ => match g ρ with
  | .ok (d, ρ') => (match tg d ρ' with
    | .ok ρ2 => .nx ρ2
    | .ex c d => .ex c d
    | .stuck => .stuck)
  | .ex c d => .ex c d
  | .stuck => .stuck
theorem ss_asg {te : TE} {g : GX} {tg : TG} {gg : GG} {is : List Nat} (h : SX C W Γ te g m) (hg : SN C Γ tg gg m is) (hx : ∀ d ρ c e, gg d ρ ≠ .ex c e) : SS C W mr Γb Γ (tAsg te tg) (gAsg g gg) Γ := by
  intro F H σ ρ L Dn hs r k
  show te σ H fun x H1 => tg x σ H1 Dn.nx
  refine h F H σ ρ L _ hs r ?_
  unfold gAsg at k
  revert k
  cases g ρ with
  | ok p =>
    obtain ⟨d, ρ'⟩ := p
    intro k F1 H1 v s1 r1
    have k : PS' C W mr Γb Γ F H L Dn (match gg d ρ' with | .ok ρ2 => .nx ρ2 | .ex c d => .ex c d | .stuck => .stuck) := k
    cases e : gg d ρ' with
    | ok ρ2 =>
      rw [e] at k
      exact hg F1 H1 σ ρ' L d v ρ2 _ r1 e fun σ' _ r2 => k F1 H1 σ' s1 r2
    | ex c d => exact absurd e (hx _ _ _ _)
    | stuck => rw [e] at k; exact k.elim
  | ex c d => exact fun k => k
  | stuck => exact fun k => k
theorem nx_name {i : Nat} : ∀ d ρ c e, gtName i d ρ ≠ .ex c e := fun _ _ _ _ h => by cases h
theorem nx_tup {is : List Nat} : ∀ d ρ c e, gtTup is d ρ ≠ .ex c e := fun d _ _ _ h => by
  cases d with
  | tup ds =>
    have h : (if ds.length = is.length then Rs.ok _ else .stuck) = Rs.ex _ _ := h
    split at h <;> cases h
  | _ => cases h
theorem ss_set {i : Nat} {te : TE} {g : GX} (h : SX C W Γ te g m) (l : i < Γ.length) (hio : ∀ p ∈ C.io, p.1 ≠ i) : SS C W mr Γb Γ (tAsg te (gName i)) (gAsg g (gtName i)) (Γ.set i m) := by
  intro F H σ ρ L Dn hs r k
  show te σ H fun x H1 => Dn.nx (σ.set i (some x)) H1
  refine h F H σ ρ L _ hs r ?_
  unfold gAsg at k
  revert k
  cases g ρ with
  | ok p => exact fun k F1 H1 v s1 r1 => k F1 H1 _ s1 (r1.put l hio)
  | ex c d => exact fun k => k
  | stuck => exact fun k => k
/-- the modes of slots that hold nothing may be any -/
theorem ss_mode {i : Nat} {t : TS} {g : GS} (h : SS C W mr Γb (Γ.set i m) t g Γ') (l : i < Γ.length) (hio : ∀ p ∈ C.io, p.1 ≠ i) : SS C W mr Γb Γ t (fun ρ => g (ρ.set i none)) Γ' := by
  intro F H σ ρ L Dn hs r k
  refine h F H σ (ρ.set i none) L Dn hs ?_ k
  obtain ⟨f1, f2, nd, a, b⟩ := r.own
  have key : ∀ {Γ : List Md} {σ : L2.St} {ρ : EnvD} {fp : List Addr} {i : Nat}, Slots C F H Γ σ ρ fp → ∃ x y z, fp = x ++ (y ++ z) ∧ Slots C F H (Γ.set i m) σ (ρ.set i none) (x ++ z) := by
    intro Γ
    induction Γ with
    | nil =>
      intro σ ρ fp i h
      cases σ <;> cases ρ <;> first | exact ⟨[], [], [], h, rfl⟩ | exact h.elim
    | cons m1 Γ ih =>
      intro σ ρ fp i h
      cases σ with
      | nil => cases ρ <;> exact h.elim
      | cons s1 σ =>
        cases ρ with
        | nil => exact h.elim
        | cons r1 ρ =>
          obtain ⟨f1, f2, h1, h2, h3⟩ := h
          cases i with
          | zero => exact ⟨[], f1, f2, h1, [], f2, rfl, rfl, h3⟩
          | succ i =>
            obtain ⟨x, y, z, h4, h5⟩ := ih (i := i) h3
            exact ⟨f1 ++ x, y, z, by rw [h1, h4, List.append_assoc], f1, x ++ z, by rw [List.append_assoc], h2, h5⟩
  obtain ⟨x, y, z, h4, h5⟩ := key (i := i) a
  subst h4
  refine ⟨r.fit, fun p hp => ?_, x ++ z, f2, nd.sublist (List.Sublist.append (List.Sublist.append (List.Sublist.refl _) (List.sublist_append_right _ _)) (List.Sublist.refl _)), h5, b⟩
  rw [List.getElem?_set_ne (Ne.symm (hio p hp))]
  exact r.io p hp

/-! ### while -/
def whileG (c : GT) (b : GS) : Nat → GS
  | 0, _ => .stuck
  | n + 1, ρ => match c ρ with
    | .ok true => (match b ρ with
      | .nx ρ' => whileG c b n ρ'
      | .ct ρ' => whileG c b n ρ'
      | .bk ρ' => .nx ρ'
      | o => o)
    | .ok false => .nx ρ
    | .ex c d => .ex c d
    | .stuck => .stuck
def fuelW : Nat := 1099511627776
def gWhile (c : GT) (b : GS) : GS := whileG c b fuelW
theorem whileG_mono {c : GT} {b : GS} : ∀ {n k : Nat} {ρ : EnvD} {o : Out}, n ≤ k → whileG c b n ρ = o → o ≠ .stuck → whileG c b k ρ = o
  | 0, _, _, _, _, h, hn => absurd h.symm hn
  | n + 1, 0, _, _, h, _, _ => absurd h (Nat.not_succ_le_zero _)
  | n + 1, k + 1, ρ, o, h, e, hn => by
    unfold whileG at e ⊢
    split at e
    · split at e
      · exact whileG_mono (Nat.le_of_succ_le_succ h) e hn
      · exact whileG_mono (Nat.le_of_succ_le_succ h) e hn
      · exact e
      · exact e
    · exact e
    · exact e
    · exact e
theorem gWhile_of {c : GT} {b : GS} {n : Nat} {ρ : EnvD} {o : Out} (h : n ≤ fuelW) (e : whileG c b n ρ = o) (hn : o ≠ .stuck) : gWhile c b ρ = o := whileG_mono h e hn
theorem ss_while {c : TT} {tb : TS} {gc : GT} {gb : GS} (hc : ST C W Γ c gc) (hb : SS C W mr Γ Γ tb gb Γ) : SS C W mr Γb Γ (tWhile c tb) (gWhile gc gb) Γ := by
  intro F H σ ρ L Dn hs r k
  refine ⟨fun n σ H => ∃ F' ρ', Same F F' ∧ Rep C F' H Γ σ ρ' L ∧ PS' C W mr Γb Γ F' H L Dn (whileG gc gb n ρ'), ⟨fuelW, F, ρ, Same.refl _, r, k⟩, fun n σ H hW => ?_⟩
  obtain ⟨F1, ρ1, s1, r1, k1⟩ := hW
  cases n with
  | zero => exact k1.elim
  | succ n =>
    refine hc F1 H σ ρ1 L _ hs.ok r1 ?_
    unfold whileG at k1
    revert k1
    cases gc ρ1 with
    | ok b =>
      intro k1 F2 H2 s2 s3 r2
      cases b with
      | false =>
        show Dn.nx σ H2
        exact k1 F2 H2 σ s2 r2
      | true =>
        show ∃ N : L2.St → Hp → Prop, _
        refine ⟨fun σ' H' => ∃ F' ρ', Same F F' ∧ Rep C F' H' Γ σ' ρ' L ∧ PS' C W mr Γb Γ F' H' L Dn (whileG gc gb n ρ'), fun σ' H' h => ⟨n, Nat.lt_succ_self _, h⟩, ?_⟩
        refine hb F2 H2 σ ρ1 L _ hs r2 ?_
        revert k1
        cases gb ρ1 with
        | nx ρ' => exact fun k F3 H3 σ3 s4 r3 => ⟨F3, ρ', s1.trans (s2.trans s4), r3, PS'.mono k (s2.trans s4)⟩
        | ct ρ' => exact fun k F3 H3 σ3 s4 r3 => ⟨F3, ρ', s1.trans (s2.trans s4), r3, PS'.mono k (s2.trans s4)⟩
        | bk ρ' => exact fun k F3 H3 σ3 s4 r3 => k F3 H3 σ3 (s2.trans s4) r3
        | rt d ρ' => exact fun k F3 H3 Γr σ3 L3 v s4 r3 => k F3 H3 Γr σ3 L3 v (s2.trans s4) r3
        | ex c d => exact fun k F3 H3 s4 f => k F3 H3 (s2.trans s4) f
        | stuck => exact fun k => k
    | ex c d => exact fun k1 F2 H2 s2 s3 f => k1 F2 H2 s2 f
    | stuck => exact fun k1 => k1

/-! ### what is walked -/
/-- the turns of J give the items, in the mode m, while the entries E stand -/
def Walk (C : Cxt) (J : It) (its : List DV) (m : Md) (E : List Ent) : Prop :=
  ∀ (i : Nat) F H Γ σ ρ L, Rep C F H Γ σ ρ (E ++ L) → (its.length ≤ i → J.stop i H) ∧
    ∀ d, its[i]? = some d → J.go i H ∧ ∀ x H', J.yld i H x H' → ∃ F', Same F F' ∧ Same H H' ∧ Rep C F' H' Γ σ ρ ((m, d, x) :: (E ++ L))
abbrev GI := EnvD → Rs (List DV)
def PI' (C : Cxt) (W : Wx) (Γ : List Md) (F H : Hp) (σ : L2.St) (ρ : EnvD) (L : List Ent) (m : Md) (st : Bool) (R : It → Hp → Prop) : Rs (List DV) → Prop
  | .ok its => ∀ F' H' J E, Same F F' → Same H H' → (st = true → storL E) → (∀ e ∈ E, e.1.free = true ∧ At C F' H' e.1 e.2.1 e.2.2 []) → Rep C F' H' Γ σ ρ (E ++ L) → Walk C J its m E → R J H'
  | .ex c d => ∀ F' H', Same F F' → Same H H' → Fit C F' H' → W c d H'
  | .stuck => False
def SI (C : Cxt) (W : Wx) (Γ : List Md) (wi : TI) (gi : GI) (m : Md) (st : Bool) : Prop :=
  ∀ F H σ ρ L R, okL L → Rep C F H Γ σ ρ L → PI' C W Γ F H σ ρ L m st R (gi ρ) → wi σ H R
theorem storL_app {E L : List Ent} (h1 : storL E) (h2 : storL L) : storL (E ++ L) := by
  show (E ++ L).all _ = true
  rw [List.all_append, h1, h2]
  rfl
theorem Rep.dropE : ∀ {E : List Ent}, Rep C F H Γ σ ρ (E ++ L) → Rep C F H Γ σ ρ L
  | [], r => r
  | _ :: E, r => Rep.dropE (E := E) r.tail
def forG (tg : GG) (b : GS) : List DV → GS
  | [], ρ => .nx ρ
  | d :: ds, ρ => match tg d ρ with
    | .ok ρ1 => (match b ρ1 with
      | .nx ρ2 => forG tg b ds ρ2
      | .ct ρ2 => forG tg b ds ρ2
      | .bk ρ2 => .nx ρ2
      | o => o)
    | .ex c d => .ex c d
    | .stuck => .stuck
def gFor (gi : GI) (tg : GG) (b : GS) : GS := fun ρ => match gi ρ with
  | .ok its => forG tg b its ρ
  | .ex c d => .ex c d
  | .stuck => .stuck
theorem ss_for {wi : TI} {gi : GI} {g : TG} {tg : GG} {tb : TS} {gb : GS} {is : List Nat} (hi : SI C W Γ wi gi m true) (hg : SN C Γ g tg m is) (hx : ∀ d ρ c e, tg d ρ ≠ .ex c e) (hb : SS C W mr Γ Γ tb gb Γ) : SS C W mr Γb Γ (tFor wi g tb) (gFor gi tg gb) Γ := by
  intro F H σ ρ L Dn hs r k
  refine hi F H σ ρ L _ hs.ok r ?_
  unfold gFor at k
  revert k
  cases gi ρ with
  | ex c d => exact fun k F2 H2 s2 s3 f => k F2 H2 s2 f
  | stuck => exact fun k => k
  | ok its =>
    intro k F1 H1 J E s1 s2 hE hA r1 w
    refine ⟨fun i n σ H => i + n = its.length ∧ ∃ F' ρ', Same F F' ∧ Rep C F' H Γ σ ρ' (E ++ L) ∧ PS' C W mr Γb Γ F' H L Dn (forG tg gb (its.drop i) ρ'), ⟨its.length, by omega, F1, ρ, s1, r1, PS'.mono k s1⟩, fun i n σ H hW => ?_⟩
    obtain ⟨en, F2, ρ2, s3, r2, k2⟩ := hW
    obtain ⟨w1, w2⟩ := w i F2 H Γ σ ρ2 L r2
    cases e : its[i]? with
    | none =>
      have hl := List.getElem?_eq_none_iff.mp e
      rw [List.drop_of_length_le hl] at k2
      exact .inl ⟨w1 hl, k2 F2 H σ (Same.refl _) r2.dropE⟩
    | some d =>
      have hl := (List.getElem?_eq_some_iff.mp e).1
      have ed : its.drop i = d :: its.drop (i + 1) := by
        rw [List.drop_eq_getElem_cons hl, (List.getElem?_eq_some_iff.mp e).2]
      rw [ed] at k2
      obtain ⟨w3, w4⟩ := w2 d e
      refine .inr ⟨w3, fun σ' H' => ∃ F' ρ', Same F F' ∧ Rep C F' H' Γ σ' ρ' (E ++ L) ∧ PS' C W mr Γb Γ F' H' L Dn (forG tg gb (its.drop (i + 1)) ρ'), fun σ' H' h => ⟨n - 1, by omega, by omega, h⟩, fun x H' hy => ?_⟩
      obtain ⟨F3, s4, s5, r3⟩ := w4 x H' hy
      unfold forG at k2
      cases et : tg d ρ2 with
      | ex c d => exact absurd et (hx _ _ _ _)
      | stuck => rw [et] at k2; exact k2.elim
      | ok ρ3 =>
        rw [et] at k2
        refine hg F3 H' σ ρ2 (E ++ L) d x ρ3 _ r3 et fun σ' _ r4 => ?_
        refine hb F3 H' σ' ρ3 (E ++ L) _ (storL_app (hE rfl) hs) r4 ?_
        revert k2
        show PS' C W mr Γb Γ F2 H L Dn (match gb ρ3 with | .nx ρ2 => forG tg gb (its.drop (i + 1)) ρ2 | .ct ρ2 => forG tg gb (its.drop (i + 1)) ρ2 | .bk ρ2 => .nx ρ2 | o => o) → _
        cases gb ρ3 with
        | nx ρ' => exact fun k F4 H4 σ4 s6 r5 => ⟨F4, ρ', s3.trans (s4.trans s6), r5, PS'.mono k (s4.trans s6)⟩
        | ct ρ' => exact fun k F4 H4 σ4 s6 r5 => ⟨F4, ρ', s3.trans (s4.trans s6), r5, PS'.mono k (s4.trans s6)⟩
        | bk ρ' => exact fun k F4 H4 σ4 s6 r5 => k F4 H4 σ4 (s4.trans s6) r5.dropE
        | rt d ρ' => exact fun k F4 H4 Γr σ4 L4 v s6 r5 => k F4 H4 Γr σ4 L4 v (s4.trans s6) r5
        | ex c d => exact fun k F4 H4 s6 f => k F4 H4 (s4.trans s6) f
        | stuck => exact fun k => k
end
end DL
end

/-! text DL8 -/
section
set_option maxRecDepth 100000
set_option maxHeartbeats 4000000
/-! the data layer, part 8: what is walked, comprehensions -/
namespace DL
open PySem PySem.Spec PyProof.Rows L2
section
variable {C : Cxt} {W : Wx} {F F' H H' : Hp} {Γ : List Md} {σ : L2.St} {ρ : EnvD} {L : List Ent} {m ma mb mr : Md} {d : DV} {v : V} {st : Bool}
theorem ixok_free : ∀ {m : Md}, m.ixok = true → m.free = true
  | .fr, _ => rfl
  | .bo, _ => rfl
  | .sc, _ => rfl
  | .pk m, h => fo_free m h
  | .tu m, h => fo_free m h
  | .po m, h => fo_free m h
where fo_free : ∀ (m : Md), m.fo = true → m.free = true
  | .fr, _ => rfl
  | .pk m, h => fo_free m h
  | .tu m, h => fo_free m h
  | .po m, h => fo_free m h
def seqOf : DV → Rs (List DV)
  | .lst ds => .ok ds
  | .tup ds => .ok ds
  | _ => .stuck
def gSeqI (g : GE) : GI := fun ρ => (g ρ).bind seqOf
/-- a list or a tuple -/
def iSeq (K : PySem.W.Frag) (tl : TE) : TI := fun σ H R => iList K tl σ H R ∨ iTup K tl σ H R
theorem pi_seq {X : Cx} {tg l : Expr} {tl : TE} (hl : PE X l tl) : PI X tg l (iSeq X.K tl) :=
  ⟨fun pins s σ H R I h => h.elim (fun h => (pi_list hl).run pins s σ H R I h) fun h => (pi_tup hl).run pins s σ H R I h⟩
theorem si_seq {t : TE} {g : GE} (h : SE C W Γ t g m) (q : m.ixok = true := by rfl) (hs : st = true → m.stor = true := by exact fun _ => rfl) : SI C W Γ (iSeq C.K t) (gSeqI g) m.kid st := by
  intro F H σ ρ L R hL r k
  unfold gSeqI at k
  have key : ∀ d, g ρ = .ok d → (∀ ds, d = .lst ds → iList C.K t σ H R) ∧ (∀ ds, d = .tup ds → iTup C.K t σ H R) := by
    intro d e
    constructor
    · intro ds ed
      subst ed
      rw [e] at k
      refine h F H σ ρ L _ hL r ?_
      rw [e]
      intro F1 H1 x s1 s2 r1
      obtain ⟨a, vs, h1, h2, h3⟩ := r1.items q
      refine ⟨a, h1, ⟨vs, h2.1⟩, ?_⟩
      refine k F1 H1 (Itl C.K a) [(m, .lst ds, x)] s1 s2 (fun z => storL_cons (hs z) rfl) (fun e he => ?_) r1 ?_
      · obtain rfl := List.mem_singleton.mp he
        exact ⟨ixok_free q, r1.free (ixok_free q)⟩
      · intro i F2 H2 Γ2 σ2 ρ2 L2 r2
        obtain ⟨a2, vs2, g1, g2, g3⟩ := Rep.items (L := L2) r2 q
        have ea : a2 = a := by
          rw [h1] at g1
          cases g1
          rfl
        subst ea
        refine ⟨fun hl => ⟨vs2, g2.1, by rw [← g3.length]; exact hl⟩, fun d hd => ?_⟩
        obtain ⟨w, e1, e2⟩ := g3.nil_get hd
        refine ⟨⟨vs2, w, g2.1, e1⟩, fun y H' hy => ?_⟩
        obtain ⟨rfl, hy⟩ := hy
        have ey : y = w := Option.some.inj ((hy vs2 g2.1).symm.trans e1)
        subst ey
        exact ⟨F2, Same.refl _, Same.refl _, r2.cons0 e2⟩
    · intro ds ed
      subst ed
      rw [e] at k
      refine h F H σ ρ L _ hL r ?_
      rw [e]
      intro F1 H1 x s1 s2 r1
      obtain ⟨a, vs, h1, h2, h3⟩ := r1.parts q
      refine ⟨a, h1, ⟨vs, h2⟩, ?_⟩
      refine k F1 H1 (Itt C.K a) [(m, .tup ds, x)] s1 s2 (fun z => storL_cons (hs z) rfl) (fun e he => ?_) r1 ?_
      · obtain rfl := List.mem_singleton.mp he
        exact ⟨ixok_free q, r1.free (ixok_free q)⟩
      · intro i F2 H2 Γ2 σ2 ρ2 L2 r2
        obtain ⟨a2, vs2, g1, g2, g3⟩ := Rep.parts (L := L2) r2 q
        have ea : a2 = a := by
          rw [h1] at g1
          cases g1
          rfl
        subst ea
        refine ⟨fun hl => ⟨vs2, g2, by rw [← g3.length]; exact hl⟩, fun d hd => ?_⟩
        obtain ⟨w, e1, e2⟩ := g3.nil_get hd
        refine ⟨⟨vs2, w, g2, e1⟩, fun y H' hy => ?_⟩
        obtain ⟨rfl, hy⟩ := hy
        have ey : y = w := Option.some.inj ((hy vs2 g2).symm.trans e1)
        subst ey
        exact ⟨F2, Same.refl _, Same.refl _, r2.cons0 e2⟩
  cases e : g ρ with
  | ok d =>
    cases d with
    | lst ds => exact .inl ((key _ e).1 ds rfl)
    | tup ds => exact .inr ((key _ e).2 ds rfl)
    | _ => rw [e] at k; exact k.elim
  | ex c d =>
    refine .inl (h F H σ ρ L _ hL r ?_)
    rw [e] at k ⊢
    exact k
  | stuck => rw [e] at k; exact k.elim

/-! ranges -/
def rngD (lo : Int) (n : Nat) : List DV := (List.range n).map fun k : Nat => DV.int (lo + (k : Int))
def rngOk (j : Int) : Bool := decide (-(2 ^ 62) ≤ j) && decide (j < 2 ^ 62)
theorem rngOk_ok {j : Int} (h : rngOk j = true) : -(2 ^ 62) ≤ j ∧ j < 2 ^ 62 := by
  obtain ⟨h1, h2⟩ := (Bool.and_eq_true _ _).mp h
  exact ⟨of_decide_eq_true h1, of_decide_eq_true h2⟩
def dRng1 : List DV → Rs (List DV)
  | [.int j] => if rngOk j = true then .ok (rngD 0 j.toNat) else .stuck
  | _ => .stuck
def dRng2 : List DV → Rs (List DV)
  | [.int i, .int j] => if (rngOk i && rngOk j) = true then .ok (rngD i (j - i).toNat) else .stuck
  | _ => .stuck
def gRng1 (g : GA) : GI := fun ρ => (g ρ).bind dRng1
def gRng2 (g : GA) : GI := fun ρ => (g ρ).bind dRng2
theorem walk_rng {lo : Int} {n : Nat} : Walk C (Itr lo n) (rngD lo n) .fr [] := by
  intro i F H Γ σ ρ L r
  have hl : (rngD lo n).length = n := by unfold rngD; rw [List.length_map, List.length_range]
  refine ⟨fun h => by rw [hl] at h; exact h, fun d hd => ?_⟩
  have h1 := (List.getElem?_eq_some_iff.mp hd).1
  rw [hl] at h1
  have h2 : d = .int (lo + (i : Int)) := by
    unfold rngD at hd
    rw [List.getElem?_map, List.getElem?_range h1] at hd
    exact (Option.some.inj hd).symm
  subst h2
  refine ⟨h1, fun x H' hy => ?_⟩
  obtain ⟨rfl, rfl⟩ := hy
  exact ⟨F, Same.refl _, Same.refl _, r.cons0 ⟨rfl, rfl⟩⟩
theorem si_rng1 {t : TA} {g : GA} (h : SA C W Γ t g [ma]) (q : ma.rd = true := by rfl) : SI C W Γ (iRng1 t) (gRng1 g) .fr st := by
  intro F H σ ρ L R hL r k
  show t σ H fun vs H1 => ∃ j : Int, vs = [.int j] ∧ -(2 ^ 62) ≤ j ∧ j < 2 ^ 62 ∧ R (Itr 0 j.toNat) H1
  refine h F H σ ρ L _ hL r ?_
  unfold gRng1 at k
  revert k
  cases g ρ with
  | ex c d => exact fun k => k
  | stuck => exact fun k => k
  | ok ds =>
    intro k F1 H1 vs s1 s2 e1 e2 r1
    match vs, ds, e1, e2, r1, k with
    | [x], [dx], _, _, r1, k =>
      have hd := Rep.da (L := L) r1 q
      cases dx with
      | int j =>
        have k : PI' C W Γ F H σ ρ L .fr st R (if rngOk j = true then .ok (rngD 0 j.toNat) else .stuck) := k
        split at k
        · rename_i hz
          obtain ⟨z1, z2⟩ := rngOk_ok hz
          have hx : x = .int j := hd
          exact ⟨j, by rw [hx], z1, z2, k F1 H1 _ [] s1 s2 (fun _ => rfl) (fun e he => by cases he) (Rep.tail (L := L) r1) walk_rng⟩
        · exact k.elim
      | _ => exact k.elim
theorem si_rng2 {t : TA} {g : GA} (h : SA C W Γ t g [ma, mb]) (qa : ma.rd = true := by rfl) (qb : mb.rd = true := by rfl) : SI C W Γ (iRng2 t) (gRng2 g) .fr st := by
  intro F H σ ρ L R hL r k
  show t σ H fun vs H1 => ∃ i j : Int, vs = [.int i, .int j] ∧ (-(2 ^ 62) ≤ i ∧ i < 2 ^ 62 ∧ -(2 ^ 62) ≤ j ∧ j < 2 ^ 62) ∧ R (Itr i (j - i).toNat) H1
  refine h F H σ ρ L _ hL r ?_
  unfold gRng2 at k
  revert k
  cases g ρ with
  | ex c d => exact fun k => k
  | stuck => exact fun k => k
  | ok ds =>
    intro k F1 H1 vs s1 s2 e1 e2 r1
    match vs, ds, e1, e2, r1, k with
    | [x, y], [dx, dy], _, _, r1, k =>
      obtain ⟨hd1, hd2⟩ := Rep.da2 (L := L) r1 qa qb
      cases dx with
      | int i =>
        cases dy with
        | int j =>
          have k : PI' C W Γ F H σ ρ L .fr st R (if (rngOk i && rngOk j) = true then .ok (rngD i (j - i).toNat) else .stuck) := k
          split at k
          · rename_i hz
            obtain ⟨y1, y2⟩ := (Bool.and_eq_true _ _).mp hz
            obtain ⟨z1, z2⟩ := rngOk_ok y1
            obtain ⟨z3, z4⟩ := rngOk_ok y2
            have hx : x = .int i := hd1
            have hy : y = .int j := hd2
            exact ⟨i, j, by rw [hx, hy], ⟨z1, z2, z3, z4⟩, k F1 H1 _ [] s1 s2 (fun _ => rfl) (fun e he => by cases he) (Rep.tail (L := L) (Rep.tail (L := _ :: L) r1)) walk_rng⟩
          · exact k.elim
        | _ => exact k.elim
      | _ => cases dy <;> exact k.elim

/-! ### slots wiped and laid back -/
def wipeD (ρ : EnvD) : List Nat → EnvD
  | [] => ρ
  | v :: vs => (wipeD ρ vs).set v none
theorem Slots.sig : ∀ {Γ : List Md} {σ : L2.St} {ρ : EnvD} {fp : List Addr} {i : Nat} (s : Option V), Slots C F H Γ σ ρ fp → ρ[i]? = some none → Slots C F H Γ (σ.set i s) ρ fp
  | [], [], [], _, i, s, h, _ => h
  | m1 :: Γ, s1 :: σ, r :: ρ, _, 0, s, ⟨f1, f2, h1, h2, h3⟩, e => by
    have e : r = none := by simpa using e
    subst e
    exact ⟨f1, f2, h1, h2, h3⟩
  | m1 :: Γ, s1 :: σ, r :: ρ, _, i + 1, s, ⟨f1, f2, h1, h2, h3⟩, e => ⟨f1, f2, h1, h2, Slots.sig s h3 (by simpa using e)⟩
theorem Rep.sig {i : Nat} (s : Option V) (r : Rep C F H Γ σ ρ L) (e : ρ[i]? = some none) (hio : ∀ p ∈ C.io, p.1 ≠ i) : Rep C F H Γ (σ.set i s) ρ L := by
  obtain ⟨f1, f2, nd, a, b⟩ := r.own
  refine ⟨r.fit, fun p hp => ?_, f1, f2, nd, a.sig s e, b⟩
  rw [List.getElem?_set_ne (Ne.symm (hio p hp))]
  exact r.io p hp
theorem Rep.wipe1 {i : Nat} (r : Rep C F H Γ σ ρ L) (hΓ : Γ.all Md.stor = true) (hio : ∀ p ∈ C.io, p.1 ≠ i) : ∃ S : List Ent, storL S ∧ Rep C F H Γ (σ.set i none) (ρ.set i none) (S ++ L) ∧
    ∀ F' H' L', Rep C F' H' Γ (σ.set i none) (ρ.set i none) (S ++ L') → Rep C F' H' Γ σ ρ L' := by
  obtain ⟨f1, f2, nd, a, b⟩ := id r.own
  obtain ⟨l1, l2⟩ := a.len
  cases e : ρ[i]? with
  | none =>
    have hl := List.getElem?_eq_none_iff.mp e
    have e1 : ρ.set i none = ρ := List.set_eq_of_length_le hl
    have e2 : σ.set i none = σ := List.set_eq_of_length_le (by rw [l1, ← l2]; exact hl)
    rw [e1, e2]
    exact ⟨[], rfl, r, fun F' H' L' h => h⟩
  | some o =>
    cases o with
    | none =>
      have e1 : ρ.set i none = ρ := set_id e
      rw [e1]
      have hl := (List.getElem?_eq_some_iff.mp e).1
      refine ⟨[], rfl, r.sig none e hio, fun F' H' L' h => ?_⟩
      have h2 := Rep.sig (σ[i]'(by rw [l1, ← l2]; exact hl)) h e hio
      rw [set_set', set_id (List.getElem?_eq_getElem _)] at h2
      exact h2
    | some d =>
      have hl := (List.getElem?_eq_some_iff.mp e).1
      have hl2 : i < Γ.length := by rw [← l2]; exact hl
      have em := List.getElem?_eq_getElem hl2
      obtain ⟨v, h1, r1⟩ := r.take em e
      have en : (ρ.set i none)[i]? = some none := List.getElem?_set_self hl
      refine ⟨[(Γ[i], d, v)], storL_cons (List.all_eq_true.mp hΓ _ (List.getElem_mem hl2)) rfl, r1.sig none en hio, fun F' H' L' h => ?_⟩
      have h2 := Rep.sig (some v) h en hio
      rw [set_set', set_id h1] at h2
      have h3 := Rep.back (L := L') h2 h1 (.inl em)
      rw [set_set', set_id e, set_id em] at h3
      exact h3
theorem Rep.wipe : ∀ {vs : List Nat}, Rep C F H Γ σ ρ L → Γ.all Md.stor = true → (∀ p ∈ C.io, ∀ i ∈ vs, p.1 ≠ i) → ∃ S : List Ent, storL S ∧ Rep C F H Γ (L2.wipe σ vs) (wipeD ρ vs) (S ++ L) ∧
    ∀ F' H' L', Rep C F' H' Γ (L2.wipe σ vs) (wipeD ρ vs) (S ++ L') → Rep C F' H' Γ σ ρ L'
  | [], r, _, _ => ⟨[], rfl, r, fun F' H' L' h => h⟩
  | i :: vs, r, hΓ, hio => by
    obtain ⟨S, h1, h2, h3⟩ := Rep.wipe (vs := vs) r hΓ fun p hp j hj => hio p hp j (List.mem_cons_of_mem _ hj)
    obtain ⟨S2, g1, g2, g3⟩ := h2.wipe1 (i := i) hΓ fun p hp => hio p hp i List.mem_cons_self
    refine ⟨S2 ++ S, storL_app g1 h1, ?_, fun F' H' L' h => h3 F' H' L' (g3 F' H' _ ?_)⟩
    · rw [List.append_assoc]; exact g2
    · rw [← List.append_assoc]; exact h
/-- slots forgotten -/
theorem Rep.forget : ∀ {vs : List Nat}, Rep C F H Γ σ ρ L → (∀ p ∈ C.io, ∀ i ∈ vs, p.1 ≠ i) → Rep C F H Γ (L2.wipe σ vs) (wipeD ρ vs) L
  | [], r, _ => r
  | i :: vs, r, hio => by
    have h := Rep.forget (vs := vs) r fun p hp j hj => hio p hp j (List.mem_cons_of_mem _ hj)
    obtain ⟨f1, f2, nd, a, b⟩ := h.own
    obtain ⟨x, y, z, h4, h5⟩ := a.drop (i := i) none
    subst h4
    refine ⟨h.fit, fun p hp => ?_, x ++ z, f2, ?_, h5, b⟩
    · show ((L2.wipe σ vs).set i none)[p.1]? = _ ∧ _
      rw [List.getElem?_set_ne (Ne.symm (hio p hp i List.mem_cons_self))]
      exact h.io p hp
    · refine nd.sublist (List.Sublist.append ?_ (List.Sublist.refl _))
      exact List.Sublist.append (List.Sublist.refl _) (List.sublist_append_right _ _)
theorem wipe_idem (σ : L2.St) : ∀ vs : List Nat, L2.wipe (L2.wipe σ vs) vs = L2.wipe σ vs := by
  have key : ∀ (us vs : List Nat), (∀ i ∈ us, i ∈ vs) → L2.wipe (L2.wipe σ us) vs = L2.wipe σ vs := by
    intro us
    induction us with
    | nil => intro vs _; rfl
    | cons i us ih =>
      intro vs h
      show L2.wipe ((L2.wipe σ us).set i none) vs = _
      rw [wipe_set _ i none vs (h i List.mem_cons_self)]
      exact ih vs fun j hj => h j (List.mem_cons_of_mem _ hj)
  exact fun vs => key vs vs fun _ h => h
theorem wipeD_set (ρ : EnvD) (i : Nat) (x : Option DV) : ∀ vs : List Nat, i ∈ vs → wipeD (ρ.set i x) vs = wipeD ρ vs
  | [], h => by cases h
  | w :: vs, h => by
    show (wipeD (ρ.set i x) vs).set w none = (wipeD ρ vs).set w none
    by_cases e : i ∈ vs
    · rw [wipeD_set ρ i x vs e]
    · have hw : i = w := by
        rcases List.mem_cons.mp h with h | h
        · exact h
        · exact absurd h e
      subst hw
      clear h
      have key : ∀ vs : List Nat, i ∉ vs → wipeD (ρ.set i x) vs = (wipeD ρ vs).set i x := by
        intro vs
        induction vs with
        | nil => intro _; rfl
        | cons u vs ih =>
          intro hn
          show (wipeD (ρ.set i x) vs).set u none = ((wipeD ρ vs).set u none).set i x
          rw [ih fun z => hn (List.mem_cons_of_mem _ z)]
          have : i ≠ u := fun z => hn (z ▸ List.mem_cons_self)
          exact List.set_comm _ _ this
      rw [key vs e, set_set']
theorem wipeD_idem (ρ : EnvD) : ∀ vs : List Nat, wipeD (wipeD ρ vs) vs = wipeD ρ vs := by
  have key : ∀ (us vs : List Nat), (∀ i ∈ us, i ∈ vs) → wipeD (wipeD ρ us) vs = wipeD ρ vs := by
    intro us
    induction us with
    | nil => intro vs _; rfl
    | cons i us ih =>
      intro vs h
      show wipeD ((wipeD ρ us).set i none) vs = _
      rw [wipeD_set _ i none vs (h i List.mem_cons_self)]
      exact ih vs fun j hj => h j (List.mem_cons_of_mem _ hj)
  exact fun vs => key vs vs fun _ h => h
/-- this target stores within these slots -/
def Keeps (tg : GG) (vs : List Nat) : Prop := ∀ d ρ ρ', tg d ρ = .ok ρ' → wipeD ρ' vs = wipeD ρ vs
theorem keeps_name {i : Nat} {vs : List Nat} (h : i ∈ vs) : Keeps (gtName i) vs := fun d ρ ρ' e => by
  cases e
  exact wipeD_set ρ i _ vs h
theorem setAll_wipe {vs : List Nat} : ∀ {is : List Nat} {ds : List DV} {ρ : EnvD}, (∀ i ∈ is, i ∈ vs) → wipeD (setAll is ds ρ) vs = wipeD ρ vs
  | [], _, _, _ => by unfold setAll; rfl
  | i :: is, [], _, _ => by unfold setAll; rfl
  | i :: is, d :: ds, ρ, h => by
    show wipeD (setAll is ds (ρ.set i (some d))) vs = _
    rw [setAll_wipe fun j hj => h j (List.mem_cons_of_mem _ hj)]
    exact wipeD_set ρ i _ vs (h i List.mem_cons_self)
theorem keeps_tup {is vs : List Nat} (h : ∀ i ∈ is, i ∈ vs) : Keeps (gtTup is) vs := fun d ρ ρ' e => by
  cases d with
  | tup ds =>
    have e : (if ds.length = is.length then Rs.ok (setAll is ds ρ) else .stuck) = .ok ρ' := e
    split at e
    · cases e; exact setAll_wipe h
    · cases e
  | _ => cases e
end
end DL
end

/-! text DL9 -/
section
set_option maxRecDepth 100000
set_option maxHeartbeats 4000000
/-! the data layer, part 9: comprehensions; stores -/
namespace DL
open PySem PySem.Spec PyProof.Rows L2
section
variable {C : Cxt} {W : Wx} {F F' H H' : Hp} {Γ : List Md} {σ : L2.St} {ρ : EnvD} {L : List Ent} {m ma mb mr me mi : Md} {d : DV} {v : V} {st : Bool}
/-- the heap without p -/
def hide (p : Addr) (H : Hp) : Hp := fun a => if a = p then none else H a
theorem hide_same {p : Addr} (s : Same H H') : Same (hide p H) (hide p H') := fun a o e => by
  unfold hide at e ⊢
  split at e
  · cases e
  · rename_i h
    rw [if_neg h]
    exact s _ _ e
theorem hide_upd {p : Addr} {o : HO} : Same (hide p H) (upd H p o) := fun a u e => by
  unfold hide at e
  split at e
  · cases e
  · rename_i h
    rw [upd_ne h]
    exact e
theorem hide_upd2 {p : Addr} {o : HO} : hide p (upd H p o) = hide p H := by
  funext a
  unfold hide
  split
  · rfl
  · rename_i h
    rw [upd_ne h]
theorem hide_new {p : Addr} (np : H p = none) : Same H (hide p H) := fun a u e => by
  unfold hide
  rw [if_neg (ne_of_none e np)]
  exact e
/-- entries that a write at p leaves as they are -/
def Safe (C : Cxt) (F : Hp) (p : Addr) (H : Hp) (L : List Ent) : Prop := ∀ e ∈ L, e.1.stor = true ∨ (e.1.free = true ∧ At C F (hide p H) e.1 e.2.1 e.2.2 [])
theorem Safe.of {p : Addr} (h : storL L) : Safe C F p H L := fun e he => .inl (List.all_eq_true.mp h e he)
theorem Safe.mono {p : Addr} (h : Safe C F p H L) (a : Same F F') (b : Same H H') : Safe C F' p H' L := fun e he => (h e he).imp_right fun ⟨q, x⟩ => ⟨q, x.mono a (fun _ z => by cases z) (fun _ z => by cases z) (.inr (hide_same b))⟩
theorem Safe.upd {p : Addr} {o : HO} (h : Safe C F p H L) : Safe C F p (upd H p o) L := fun e he => by
  rw [hide_upd2]
  exact h e he
theorem Exs.safe {p : Addr} {o : HO} : ∀ {L : List Ent} {fp : List Addr}, Exs C F H L fp → Safe C F p H L → (∀ a ∈ fp, F a = none) → (∀ a ∈ fp, a ≠ p) → Exs C F (L2.upd H p o) L fp
  | [], _, h, _, _, _ => h
  | (m, d, v) :: L, _, ⟨f1, f2, h1, h2, h3⟩, s, n, k => by
    subst h1
    have h4 := Exs.safe (o := o) h3 (fun e he => s e (List.mem_cons_of_mem _ he)) (fun a ha => n a (List.mem_append_right _ ha)) (fun a ha => k a (List.mem_append_right _ ha))
    refine ⟨f1, f2, rfl, ?_, h4⟩
    rcases s (m, d, v) List.mem_cons_self with q | ⟨q, x⟩
    · exact h2.mono (Same.refl _) (fun a ha => n a (List.mem_append_left _ ha)) (fun a ha => upd_ne (k a (List.mem_append_left _ ha))) (.inl q)
    · have e := h2.free_nil q
      subst e
      exact x.mono (Same.refl _) (fun _ z => by cases z) (fun _ z => by cases z) (.inr hide_upd)
/-- a list of one's own grows by what the first entry holds -/
theorem Rep.push {ds : List DV} {y : V} (r : Rep C F H Γ σ ρ ((m, d, y) :: (.own m, .lst ds, v) :: L)) (hΓ : Γ.all Md.stor = true) (qm : m.stor = true) :
    ∃ p vs, v = .ref p ∧ H p = some (.lst vs) ∧ ds.length = vs.length ∧ F p = none ∧ C.Bp p = none ∧ (Safe C F p H L → Rep C F (L2.upd H p (.lst (vs ++ [y]))) Γ σ ρ ((.own m, .lst (ds ++ [d]), v) :: L)) := by
  obtain ⟨f1, f2, nd, a, g1, g2, h1, h2, g3, g4, h3, h4, h5⟩ := r.own
  unfold At at h4
  rw [if_pos (show isLD (.lst ds) = true from rfl)] at h4
  obtain ⟨p, vs, o, fc, e1, e2, e3, e4, e5, e6, e7⟩ := h4
  obtain rfl : o = .lst vs := e5
  subst e1
  subst e6
  subst h3
  subst h1
  refine ⟨p, vs, rfl, e4, e7.length, e2, e3, fun sf => ?_⟩
  -- f1 ++ (g1 ++ ((p :: fc) ++ g4)) has no address twice
  have np := List.nodup_append.mp nd
  have np2 := List.nodup_append.mp np.2.1
  have np3 := List.nodup_append.mp np2.2.1
  have np4 := List.nodup_cons.mp np3.1
  have n1 : ∀ x ∈ f1, x ≠ p := fun x hx e => np.2.2 x hx p (List.mem_append_right _ (List.mem_append_left _ List.mem_cons_self)) e
  have n2 : ∀ x ∈ g1, x ≠ p := fun x hx e => np2.2.2 x hx p (List.mem_append_left _ List.mem_cons_self) e
  have n3 : ∀ x ∈ fc, x ≠ p := fun x hx e => np4.1 (e ▸ hx)
  have n4 : ∀ x ∈ g4, x ≠ p := fun x hx e => np3.2.2 p List.mem_cons_self x hx e.symm
  have o1 := a.owned
  have o2 := h2.owned
  have o4 := h5.owned
  have nm : ∀ x u, L2.upd H p (.lst (vs ++ [y])) x = some u → tupO u = true → H x = some u := fun x u e t => by
    by_cases z : x = p
    · subst z; rw [upd_same] at e; cases e; cases t
    · rw [upd_ne z] at e; exact e
  have lq : ∀ x u, x ≠ p → H x = some u → L2.upd H p (.lst (vs ++ [y])) x = some u := fun x u z e => by rw [upd_ne z]; exact e
  have fit : Fit C F (L2.upd H p (.lst (vs ++ [y]))) := ⟨r.fit.ff, fun x u e => lq x u (fun z => by rw [z, e2] at e; cases e) (r.fit.fh _ _ e), fun x u e => lq x u (fun z => by rw [z, e3] at e; cases e) (r.fit.bh _ _ e), r.fit.f0, fun x u e t => r.fit.tp x u (nm x u e t) t⟩
  have stm : ∀ {m : Md} {d : DV} {v : V} {f : List Addr}, m.stor = true → At C F H m d v f → (∀ x ∈ f, x ≠ p) → At C F (L2.upd H p (.lst (vs ++ [y]))) m d v f := fun q x k => x.mono (Same.refl _) (fun z hz => (x.owned z hz).1) (fun z hz => upd_ne (k z hz)) (.inl q)
  refine ⟨fit, r.io, f1, (p :: (fc ++ g1)) ++ g4, ?_, a.mono (Same.refl _) (fun x hx => (o1 x hx).1) (fun x hx => upd_ne (n1 x hx)) (.inl hΓ), p :: (fc ++ g1), g4, rfl, ?_, h5.safe sf (fun x hx => (o4 x hx).1) n4⟩
  · refine List.Perm.nodup (l := f1 ++ (g1 ++ ((p :: fc) ++ g4))) (List.Perm.append (List.Perm.refl _) ?_) nd
    rw [← List.append_assoc]
    refine List.Perm.append ?_ (List.Perm.refl _)
    exact List.perm_append_comm
  · unfold At
    rw [if_pos (show isLD (.lst (ds ++ [d])) = true from rfl)]
    refine ⟨p, vs ++ [y], _, fc ++ g1, rfl, e2, e3, upd_same, rfl, rfl, ?_⟩
    exact (e7.imp fun d v f hf x => stm qm x fun z hz => n3 z (hf z hz)).append (Alls.one (stm qm h2 n2))

/-! ### entries in another order -/
theorem Exs.perm {L L' : List Ent} (p : L.Perm L') : ∀ {f : List Addr}, Exs C F H L f → ∃ f', f.Perm f' ∧ Exs C F H L' f' := by
  induction p with
  | nil => exact fun {f} h => ⟨f, List.Perm.refl _, h⟩
  | cons e _ ih =>
    obtain ⟨m, d, v⟩ := e
    intro f ⟨f1, f2, h1, h2, h3⟩
    obtain ⟨g, pg, h4⟩ := ih h3
    exact ⟨f1 ++ g, by rw [h1]; exact List.Perm.append (List.Perm.refl _) pg, f1, g, rfl, h2, h4⟩
  | swap a b l =>
    obtain ⟨m, d, v⟩ := a
    obtain ⟨m2, d2, v2⟩ := b
    intro f ⟨f1, f2, h1, h2, f3, f4, h3, h4, h5⟩
    refine ⟨f3 ++ (f1 ++ f4), ?_, f3, f1 ++ f4, rfl, h4, f1, f4, rfl, h2, h5⟩
    rw [h1, h3, ← List.append_assoc, ← List.append_assoc]
    exact List.Perm.append List.perm_append_comm (List.Perm.refl _)
  | trans _ _ ih1 ih2 =>
    intro f h
    obtain ⟨g, pg, h1⟩ := ih1 h
    obtain ⟨g2, pg2, h2⟩ := ih2 h1
    exact ⟨g2, pg.trans pg2, h2⟩
theorem Rep.permL {L' : List Ent} (r : Rep C F H Γ σ ρ L) (p : L.Perm L') : Rep C F H Γ σ ρ L' := by
  obtain ⟨f1, f2, nd, a, b⟩ := r.own
  obtain ⟨f3, pf, b2⟩ := b.perm p
  exact ⟨r.fit, r.io, f1, f3, (List.Perm.append (List.Perm.refl _) pf).nodup nd, a, b2⟩
theorem Exs.each : ∀ {L : List Ent} {fp : List Addr}, Exs C F H L fp → ∀ e ∈ L, ∃ f, At C F H e.1 e.2.1 e.2.2 f
  | (m, d, v) :: L, _, ⟨f1, f2, h1, h2, h3⟩, e, he => by
    rcases List.mem_cons.mp he with rfl | he
    · exact ⟨f1, h2⟩
    · exact Exs.each h3 e he
theorem Rep.safe0 {D : Addr} (r : Rep C F H Γ σ ρ L) (hL : okL L) (nD : H D = none) : Safe C F D H L := fun e he => (hL e he).imp_right fun q => by
  obtain ⟨f1, f2, nd, a, b⟩ := r.own
  obtain ⟨f, h⟩ := b.each e he
  have ef := h.free_nil q
  subst ef
  exact ⟨q, h.mono (Same.refl _) (fun _ z => by cases z) (fun _ z => by cases z) (.inr (hide_new nD))⟩

/-! ### comprehensions -/
def consO : Option DV → List DV → List DV
  | some x, r => x :: r
  | none, r => r
/-- what a turn gives: nothing, or one more item -/
def lcLoop (f : DV → Rs (Option DV)) : List DV → Rs (List DV)
  | [] => .ok []
  | d :: ds => (f d).bind fun o => (lcLoop f ds).bind fun r => .ok (consO o r)
def lcTurn (tg : GG) (gt : GT) (ge : GE) (ρ : EnvD) (d : DV) : Rs (Option DV) := (tg d ρ).bind fun ρ' => (gt ρ').bind fun b => if b = true then (ge ρ').bind fun x => .ok (some x) else .ok none
def gLc (gi : GI) (tg : GG) (gt : GT) (ge : GE) (vs : List Nat) : GE := fun ρ => (gi ρ).bind fun its => if its.length ≤ sizeLine then (lcLoop (lcTurn tg gt ge (wipeD ρ vs)) its).bind fun r => .ok (.lst r) else .stuck
theorem PE'.exOf {Q : VK} {c : Str} {x : DV} {r : Rs DV} (h : PE' C W Γ F H σ ρ L m Q r) (e : r = .ex c x) : ∀ F' H', Same F F' → Same H H' → Fit C F' H' → W c x H' := by
  subst e
  exact h
theorem se_lc {wi : TI} {gi : GI} {g : TG} {tg : GG} {tt : TT} {gt : GT} {te : TE} {ge : GE} {is vs : List Nat} (hi : SI C W Γ wi gi mi false) (hg : SN C Γ g tg mi is) (hk : Keeps tg vs) (hx : ∀ d ρ c e, tg d ρ ≠ .ex c e) (hv : ∀ i ∈ is, i ∈ vs) (ht : ST C W Γ tt gt) (he : SE C W Γ te ge me)
    (hΓ : Γ.all Md.stor = true) (qm : me.stor = true) (hio : ∀ p ∈ C.io, ∀ i ∈ vs, p.1 ≠ i) : SE C W Γ (tLc wi g tt te vs) (gLc gi tg gt ge vs) (.own me) := by
  intro F H σ ρ L Q hL r k
  refine hi F H σ ρ L _ hL r ?_
  unfold gLc at k
  revert k
  cases gi ρ with
  | ex c d => exact fun k => k
  | stuck => exact fun k => k
  | ok its =>
    intro k F1 H1 J E s1 s2 _ hA r1 w
    have k : PE' C W Γ F H σ ρ L (.own me) Q (if its.length ≤ sizeLine then (lcLoop (lcTurn tg gt ge (wipeD ρ vs)) its).bind fun r => .ok (.lst r) else .stuck) := k
    split at k
    case isFalse => exact k.elim
    case isTrue hz =>
    intro D nD
    obtain ⟨S, hS, r2, back⟩ := r1.wipe (vs := vs) hΓ hio
    have hSL : okL (S ++ L) := fun e he => by
      rcases List.mem_append.mp he with h | h
      · exact .inl (List.all_eq_true.mp hS e h)
      · exact hL e h
    have hE : okL E := fun e he => .inr (hA e he).1
    have hESL : okL (E ++ (S ++ L)) := fun e he => by
      rcases List.mem_append.mp he with h | h
      · exact hE e h
      · exact hSL e h
    have pm : (S ++ (E ++ L)).Perm (E ++ (S ++ L)) := by
      rw [← List.append_assoc, ← List.append_assoc]
      exact List.Perm.append List.perm_append_comm (List.Perm.refl _)
    have r3 := r2.permL pm
    -- the accumulated items, the state between two turns
    let Inv : Nat → Hp → Prop := fun i H' => ∃ (F' : Hp) (acc : List DV), Same F1 F' ∧ Same H1 (hide D H') ∧ acc.length ≤ i ∧ Rep C F' H' Γ (L2.wipe σ vs) (wipeD ρ vs) ((.own me, .lst acc, .ref D) :: (E ++ (S ++ L))) ∧ Safe C F' D H' (E ++ (S ++ L)) ∧
      PE' C W Γ F1 H1 σ ρ L (.own me) Q ((lcLoop (lcTurn tg gt ge (wipeD ρ vs)) (its.drop i)).bind fun r => .ok (.lst (acc ++ r)))
    refine ⟨fun i n H => i + n = its.length ∧ Inv i H, ⟨its.length, by omega, F1, [], Same.refl _, ?_, Nat.le_refl _, r3.newl nD ⟨rfl, rfl⟩, ?_, k.mono s1 s2⟩, fun i n H2 hW => ?_⟩
    · rw [hide_upd2]
      exact hide_new nD
    · exact (r3.safe0 hESL nD).upd
    · obtain ⟨en, F2, acc, s3, s4, la, r4, sf, k2⟩ := hW
      have s4' : Same H1 H2 := fun a o e => by
        have h := s4 a o e
        unfold hide at h
        split at h
        · cases h
        · exact h
      have rW : Rep C F2 H2 Γ (L2.wipe σ vs) (wipeD ρ vs) (E ++ ((.own me, .lst acc, .ref D) :: (S ++ L))) := r4.permL (List.perm_middle.symm)
      obtain ⟨w1, w2⟩ := w i F2 H2 Γ (L2.wipe σ vs) (wipeD ρ vs) _ rW
      cases e : its[i]? with
      | none =>
        have hl := List.getElem?_eq_none_iff.mp e
        rw [List.drop_of_length_le hl] at k2
        refine .inl ⟨w1 hl, ?_⟩
        have k3 : PE' C W Γ F1 H1 σ ρ L (.own me) Q (.ok (.lst (acc ++ []))) := k2
        rw [List.append_nil] at k3
        refine k3 F2 H2 (.ref D) s3 s4' (back F2 H2 _ ?_)
        have r5 : Rep C F2 H2 Γ (L2.wipe σ vs) (wipeD ρ vs) (((.own me, .lst acc, .ref D) :: (S ++ L))) := rW.dropE
        exact r5.permL (List.perm_middle.symm)
      | some d =>
        have hl := (List.getElem?_eq_some_iff.mp e).1
        have ed : its.drop i = d :: its.drop (i + 1) := by
          rw [List.drop_eq_getElem_cons hl, (List.getElem?_eq_some_iff.mp e).2]
        rw [ed] at k2
        obtain ⟨w3, w4⟩ := w2 d e
        refine .inr ⟨w3, fun H' => Inv (i + 1) H', fun H' h => ⟨n - 1, by omega, by omega, h⟩, fun x H3 hy => ?_⟩
        obtain ⟨F3, s5, s6, r5⟩ := w4 x H3 hy
        have k2 : PE' C W Γ F1 H1 σ ρ L (.own me) Q (((lcTurn tg gt ge (wipeD ρ vs) d).bind fun o => (lcLoop (lcTurn tg gt ge (wipeD ρ vs)) (its.drop (i + 1))).bind fun r => .ok (consO o r)).bind fun r => .ok (.lst (acc ++ r))) := k2
        have r5 : Rep C F3 H3 Γ (L2.wipe σ vs) (wipeD ρ vs) ((mi, d, x) :: ((.own me, .lst acc, .ref D) :: (E ++ (S ++ L)))) := r5.permL (List.Perm.cons _ List.perm_middle)
        unfold lcTurn at k2
        cases et : tg d (wipeD ρ vs) with
        | ex c d => exact absurd et (hx _ _ _ _)
        | stuck => rw [et] at k2; exact k2.elim
        | ok ρ2 =>
          rw [et] at k2
          refine hg F3 H3 (L2.wipe σ vs) (wipeD ρ vs) _ d x ρ2 _ r5 et fun σ2 hw r6 => ?_
          have ew : L2.wipe σ2 vs = L2.wipe σ vs := (hw vs hv).trans (wipe_idem σ vs)
          have ewD : wipeD ρ2 vs = wipeD ρ vs := (hk d _ ρ2 et).trans (wipeD_idem ρ vs)
          have hO : okL ((.own me, .lst acc, .ref D) :: (E ++ (S ++ L))) := okL_cons (by show (me.stor || false) = true; rw [qm]; rfl) hESL
          refine ⟨ew, ?_⟩
          refine ht F3 H3 σ2 ρ2 _ _ hO r6 ?_
          revert k2
          show PE' C W Γ F1 H1 σ ρ L (.own me) Q ((((gt ρ2).bind fun b => if b = true then (ge ρ2).bind fun x => Rs.ok (some x) else .ok none).bind fun o => (lcLoop (lcTurn tg gt ge (wipeD ρ vs)) (its.drop (i + 1))).bind fun r => .ok (consO o r)).bind fun r => .ok (.lst (acc ++ r))) → _
          have sh : ∀ {H4 : Hp}, Same H3 H4 → Same H1 (hide D H4) := fun s => s4.trans (hide_same (s6.trans s))
          cases gt ρ2 with
          | ex c d => exact fun k F4 H4 s7 s8 f => k F4 H4 (s3.trans (s5.trans s7)) (s4'.trans (s6.trans s8)) f
          | stuck => exact fun k => k
          | ok b =>
            intro k F4 H4 s7 s8 r7
            cases b with
            | false =>
              show Inv (i + 1) H4
              have k3 : PE' C W Γ F1 H1 σ ρ L (.own me) Q (((lcLoop (lcTurn tg gt ge (wipeD ρ vs)) (its.drop (i + 1))).bind fun r => .ok (consO none r)).bind fun r => .ok (.lst (acc ++ r))) := k
              rw [bind2] at k3
              have r8 := r7.forget (vs := vs) hio
              rw [ew, ewD] at r8
              exact ⟨F4, acc, s3.trans (s5.trans s7), sh s8, Nat.le_succ_of_le la, r8, (sf.mono (s5.trans s7) (s6.trans s8)), k3⟩
            | true =>
              show te σ2 H4 _
              refine he F4 H4 σ2 ρ2 _ _ hO r7 ?_
              revert k
              show PE' C W Γ F1 H1 σ ρ L (.own me) Q ((((ge ρ2).bind fun x => Rs.ok (some x)).bind fun o => (lcLoop (lcTurn tg gt ge (wipeD ρ vs)) (its.drop (i + 1))).bind fun r => .ok (consO o r)).bind fun r => .ok (.lst (acc ++ r))) → _
              cases ge ρ2 with
              | ex c d => exact fun k F5 H5 s9 s10 f => k F5 H5 (s3.trans (s5.trans (s7.trans s9))) (s4'.trans (s6.trans (s8.trans s10))) f
              | stuck => exact fun k => k
              | ok dy =>
                intro k F5 H5 y s9 s10 r8
                have k3 : PE' C W Γ F1 H1 σ ρ L (.own me) Q (((lcLoop (lcTurn tg gt ge (wipeD ρ vs)) (its.drop (i + 1))).bind fun r => .ok (dy :: r)).bind fun r => .ok (.lst (acc ++ r))) := k
                rw [bind2] at k3
                obtain ⟨p, ws, z1, z2, z3, z4, z5, z6⟩ := r8.push hΓ qm
                cases z1
                have sf5 : Safe C F5 D H5 (E ++ (S ++ L)) := sf.mono (s5.trans (s7.trans s9)) (s6.trans (s8.trans s10))
                refine ⟨ws, z2, by rw [← z3]; exact Nat.lt_of_le_of_lt la (Nat.lt_of_lt_of_le hl hz), ?_⟩
                have r9 := (z6 sf5).forget (vs := vs) hio
                rw [ew, ewD] at r9
                refine ⟨F5, acc ++ [dy], s3.trans (s5.trans (s7.trans s9)), ?_, by rw [List.length_append]; exact Nat.succ_le_succ la, r9, sf5.upd, ?_⟩
                · rw [hide_upd2]
                  exact sh (s8.trans s10)
                · have e3 : (fun r : List DV => (Rs.ok (DV.lst ((acc ++ [dy]) ++ r)) : Rs DV)) = fun r => (Rs.ok (dy :: r)).bind fun r => .ok (.lst (acc ++ r)) := by
                    funext r
                    show _ = Rs.ok (DV.lst (acc ++ (dy :: r)))
                    rw [List.append_assoc]
                    rfl
                  rw [e3]
                  exact k3
end
end DL
end

/-! text DL10 -/
section
set_option maxRecDepth 100000
set_option maxHeartbeats 4000000
/-! the data layer, part 10: defs, their calls, the law -/
namespace DL
open PySem PySem.Spec PyProof.Rows L2
abbrev C0 (K : PySem.W.Frag) (mg : Str → Option Value) (H F : Hp) : Cxt := ⟨K, mg, H, F, []⟩
def ArgsAt (C : Cxt) (F H : Hp) : List Md → List DV → List V → Prop
  | [], [], [] => True
  | m :: ms, d :: ds, v :: vs => At C F H m d v [] ∧ ArgsAt C F H ms ds vs
  | _, _, _ => False
def PD (C : Cxt) (XW : Wx) (F : Hp) (mr : Md) (Q : VK) : Rs DV → Prop
  | .ok d => ∀ F' H' v fp, Same F F' → Fit C F' H' → At C F' H' mr d v fp → fp.Nodup → Q v H'
  | .ex c d => ∀ F' H', Same F F' → Fit C F' H' → XW c d H'
  | .stuck => False
/-- a def's promise by its mirror -/
def spD (K : PySem.W.Frag) (mg : Str → Option Value) (XW : XK → Wx) (pm : List Md) (mr : Md) (f : List DV → Rs DV) : Sp := fun vs H Q E =>
  ∃ F ds, Fit (C0 K mg H F) F H ∧ ArgsAt (C0 K mg H F) F H pm ds vs ∧ PD (C0 K mg H F) (XW E) F mr Q (f ds)
def X0 : XK → Wx := fun _ _ _ _ => False
def W0 : Wx := fun _ _ _ => False
theorem ArgsAt.len {C : Cxt} {F H : Hp} : ∀ {ms : List Md} {ds : List DV} {vs : List V}, ArgsAt C F H ms ds vs → ds.length = ms.length ∧ vs.length = ms.length
  | [], [], [], _ => ⟨rfl, rfl⟩
  | m :: ms, d :: ds, v :: vs, h => by
    obtain ⟨a, b⟩ := ArgsAt.len h.2
    exact ⟨by rw [List.length_cons, List.length_cons, a], by rw [List.length_cons, List.length_cons, b]⟩
  | [], _ :: _, _, h => h.elim
  | [], [], _ :: _, h => h.elim
  | _ :: _, [], _, h => h.elim
  | _ :: _, _ :: _, [], h => h.elim
def startD (n : Nat) (ds : List DV) : EnvD := ds.map some ++ List.replicate (n - ds.length) none
def finB : Out → Rs DV
  | .nx _ => .ok .non
  | .rt d _ => .ok d
  | .ex c d => .ex c d
  | _ => .stuck
/-- a def's mirror by its body's, over n slots -/
def runB (g : GS) (n : Nat) (ds : List DV) : Rs DV := finB (g (startD n ds))
section
variable {C : Cxt} {W : Wx} {F F' H H' : Hp} {Γ : List Md} {σ : L2.St} {ρ : EnvD} {L : List Ent} {m ma mb mr me mi : Md} {d : DV} {v : V}
theorem slots_none : ∀ (Γ : List Md), Slots C F H Γ (List.replicate Γ.length none) (List.replicate Γ.length none) []
  | [] => rfl
  | m :: Γ => ⟨[], [], rfl, rfl, slots_none Γ⟩
theorem slots_start : ∀ {pm : List Md} {ds : List DV} {vs : List V} (Γ : List Md), ArgsAt C F H pm ds vs → Slots C F H (pm ++ Γ) (vs.map some ++ List.replicate Γ.length none) (ds.map some ++ List.replicate Γ.length none) []
  | [], [], [], Γ, _ => slots_none Γ
  | m :: pm, d :: ds, v :: vs, Γ, h => ⟨[], [], rfl, ⟨v, rfl, h.1⟩, slots_start Γ h.2⟩
  | [], _ :: _, _, _, h => h.elim
  | [], [], _ :: _, _, h => h.elim
  | _ :: _, [], _, _, h => h.elim
  | _ :: _, _ :: _, [], _, h => h.elim
/-- THE RULE of a def that lets no exception out -/
theorem fnD {P : Program} {w : World} {K : PySem.W.Frag} {mg : Str → Option Value} {base : Heap} {k : Nat} {x qual : Str} {st : Stmt} {f : Addr} {fd : FuncData} {N ps : List Str} {pm Γl : List Md} {mr : Md} {g : GS}
    (Fn : FunD K x qual (defArgs st) (defBody st) (defScope st) [] [] f fd) (S : FnScope N ps (defScope st)) (hp : pm.length = ps.length) (hN : pm.length + Γl.length = N.length) (qr : mr.rd = true)
    (hb : ∀ (cdv : Value) (A : Around) (outer : List PySem.Env) (s : Shared) (H : Hp) (E : XK), Room k (A.deeper (envOfC qual (defScope st) s.heap.objs.size f cdv)) →
      ∃ t, PSs (cxOf CX0 P w K mg base N qual (defScope st) f cdv A outer s H E).nox (defBody st) t ∧ ∀ (Bp F0 : Hp), ∃ Γ', SS ⟨K, mg, Bp, F0, []⟩ W0 mr [] (pm ++ Γl) t g Γ') :
    FnOk P w K mg base CX0 (k + 1) f fd ps (spD K mg X0 pm mr (runB g N.length)) := by
  refine Fn.ok S (fun vs H Q E h => ?_) fun cdv A outer s H vs Q E hr h => ?_
  · obtain ⟨F, ds, _, h2, _⟩ := h
    rw [h2.len.2, hp]
  · obtain ⟨F, ds, h1, h2, h3⟩ := h
    obtain ⟨t, ht, hs⟩ := hb cdv A outer s H E hr
    obtain ⟨l1, l2⟩ := h2.len
    obtain ⟨Γ', hs⟩ := hs H F
    refine ⟨t, ht.nox, hs F H (start N vs) (startD N.length ds) [] _ rfl ?_ ?_⟩
    · refine ⟨h1, fun p hp => (by cases hp), [], [], List.nodup_nil, ?_, rfl⟩
      unfold L2.start startD
      rw [l1, l2, show N.length - pm.length = Γl.length by omega]
      exact slots_start Γl h2
    · unfold runB at h3
      revert h3
      cases g (startD N.length ds) with
      | nx ρ' => exact fun h3 F1 H1 σ1 s1 r1 => h3 F1 H1 .non [] s1 r1.fit (At.flat qr rfl) List.nodup_nil
      | rt d ρ' =>
        intro h3 F1 H1 Γr σ1 L1 v s1 r1
        obtain ⟨f1, f2, nd, a, g1, g2, e1, e2, e3⟩ := r1.own
        subst e1
        exact h3 F1 H1 v g1 s1 r1.fit e2 (nd.sublist (List.Sublist.trans (List.sublist_append_left _ _) (List.sublist_append_right _ _)))
      | bk ρ' => exact fun h => h.elim
      | ct ρ' => exact fun h => h.elim
      | ex c d => exact fun h3 F1 H1 s1 f1 => h3 F1 H1 s1 f1
      | stuck => exact fun h => h
/-! ### calls -/
@[reducible] def Md.fits : Md → Md → Bool
  | m, .bo => m.rd
  | .fr, .fr => true
  | .sc, .sc => true
  | _, _ => false
@[reducible] def fitsL : List Md → List Md → Bool
  | [], [] => true
  | m :: ms, p :: ps => Md.fits m p && fitsL ms ps
  | _, _ => false
theorem Rep.args : ∀ {ms pm : List Md} {ds : List DV} {vs : List V} {L : List Ent}, Rep C F H Γ σ ρ (entsA ms ds vs L) → fitsL ms pm = true → ds.length = vs.length → ms.length = vs.length → ArgsAt (C0 C.K C.mg H F) F H pm ds vs ∧ Rep C F H Γ σ ρ L
  | [], [], [], [], L, r, _, _, _ => ⟨trivial, r⟩
  | m :: ms, p :: pm, d :: ds, v :: vs, L, r, q, e1, e2 => by
    obtain ⟨q1, q2⟩ := (Bool.and_eq_true _ _).mp (show (Md.fits m p && fitsL ms pm) = true from q)
    obtain ⟨h1, r1⟩ := Rep.args (ms := ms) (pm := pm) (ds := ds) (vs := vs) r q2 (by simpa using e1) (by simpa using e2)
    refine ⟨⟨?_, h1⟩, r1.tail⟩
    cases p with
    | bo => exact ⟨rfl, r1.da q1⟩
    | fr =>
      cases m with
      | fr => exact ⟨rfl, r1.fr⟩
      | _ => cases q1
    | sc =>
      cases m with
      | sc => obtain ⟨f, h⟩ := r1.head; exact ⟨rfl, h.2⟩
      | _ => cases q1
    | pk m => cases m <;> cases q1
    | own m => cases m <;> cases q1
    | tu m => cases m <;> cases q1
    | ob m => cases m <;> cases q1
    | po m => cases m <;> cases q1
  | [], _ :: _, _, _, _, _, q, _, _ => by cases q
  | _ :: _, [], _, _, _, _, q, _, _ => by cases q
  | [], [], _ :: _, [], _, _, _, e, _ => by cases e
  | [], [], _, _ :: _, _, _, _, _, e => by cases e
  | _ :: _, _ :: _, [], _ :: _, _, _, _, e, _ => by cases e
  | _ :: _, _ :: _, _, [], _, _, _, _, e => by cases e
/-- the callee's frozen part is one of the caller's -/
theorem Fit.lift (e : Fit C F H) (h : Fit (C0 C.K C.mg H F) F' H') : Fit C F' H' := by
  refine ⟨e.ff.trans h.ff, h.fh, e.bh.trans h.bh, fun a ha => ?_, h.tp⟩
  rcases h.f0 a ha with z | z | ⟨o, z1, z2⟩
  · exact e.f0 a z
  · exact .inr (.inl (Same.free e.bh z))
  · exact e.f0 a (by rw [e.tp a o z1 z2]; exact fun z => by cases z)
theorem At.conv {C C' : Cxt} (hK : C'.K = C.K) (hm : C'.mg = C.mg) : ∀ {m : Md} {d : DV} {v : V} {fp : List Addr}, m.fz = true → At C F H m d v fp → (∀ a ∈ fp, C'.Bp a = none) → At C' F H m d v fp := by
  intro m
  induction m with
  | fr => intro d v fp _ h _; unfold At at h ⊢; rw [hK, hm]; exact h
  | bo => intro d v fp q; cases q
  | sc => intro d v fp q; cases q
  | pk m ih | po m ih => intro d v fp q; cases q
  | tu m ih =>
    intro d v fp q h k
    unfold At at h ⊢
    split at h
    · rename_i z
      rw [if_pos z]
      obtain ⟨a, vs, h1, h2, h3⟩ := h
      rw [hK]
      exact ⟨a, vs, h1, h2, h3.imp fun d v f hf x => ih q x fun a ha => k a (hf a ha)⟩
    · rename_i z
      rw [if_neg z, hK, hm]
      exact h
  | own m ih | ob m ih =>
    intro d v fp q h k
    unfold At at h ⊢
    split at h
    · rename_i z
      rw [if_pos z]
      obtain ⟨a, vs, o, fc, h1, h2, h3, h4, h5, h6, h7⟩ := h
      subst h6
      exact ⟨a, vs, o, fc, h1, h2, k a List.mem_cons_self, h4, by rw [hm]; exact h5, rfl, h7.imp fun d v f hf x => ih q x fun a ha => k a (List.mem_cons_of_mem _ (hf a ha))⟩
    · rename_i z
      rw [if_neg z, hK, hm]
      exact h
/-- behind a call -/
theorem Rep.call {fp : List Addr} (r : Rep C F H Γ σ ρ L) (q : m.fz = true) (hf : Fit (C0 C.K C.mg H F) F' H') (h : At (C0 C.K C.mg H F) F' H' m d v fp) (nd : fp.Nodup) : Rep C F' H' Γ σ ρ ((m, d, v) :: L) := by
  have s : Same H H' := hf.bh
  have sf : Same F F' := hf.ff
  have on : ∀ a, Owned C F H a → F' a = none := fun a ⟨h1, h2, o, h3, h4⟩ => by
    cases e : F' a with
    | none => rfl
    | some u =>
      rcases hf.f0 a (by rw [e]; exact fun z => by cases z) with z | z | ⟨o2, z1, z2⟩
      · exact absurd h1 z
      · rw [show H a = none from z] at h3; cases h3
      · rw [show H a = some o2 from z1] at h3
        cases h3
        cases o <;> first | exact h4.elim | cases z2
  have oh : ∀ a, Owned C F H a → H' a = H a := fun a ⟨h1, h2, o, h3, h4⟩ => by rw [h3]; exact s _ _ h3
  have fr : ∀ a ∈ fp, H a = none := fun a ha => (h.owned a ha).2.1
  obtain ⟨f1, f2, nd2, a, b⟩ := r.own
  have oa := a.owned
  have ob := b.owned
  refine ⟨r.fit.lift hf, r.io, f1, fp ++ f2, ?_, a.mono sf (fun x hx => on x (oa x hx)) (fun x hx => oh x (oa x hx)) (.inr s), fp, f2, rfl, h.conv (C := C0 C.K C.mg H F) (C' := C) rfl rfl q (fun x hx => Same.free r.fit.bh (fr x hx)), b.mono sf (fun x hx => on x (ob x hx)) (fun x hx => oh x (ob x hx)) (.inr s)⟩
  have hn : ∀ x ∈ f1 ++ f2, x ∉ fp := fun x hx hy => by
    have z := fr x hy
    rcases List.mem_append.mp hx with w | w
    · obtain ⟨_, _, o, e, _⟩ := oa x w; rw [z] at e; cases e
    · obtain ⟨_, _, o, e, _⟩ := ob x w; rw [z] at e; cases e
  refine List.Perm.nodup (l := fp ++ (f1 ++ f2)) ?_ ?_
  · rw [← List.append_assoc, ← List.append_assoc]
    exact List.Perm.append List.perm_append_comm (List.Perm.refl _)
  · exact List.nodup_append.mpr ⟨nd, nd2, fun x hx y hy e => hn y hy (e ▸ hx)⟩
theorem se_call {XW : XK → Wx} {E : XK} {pm ms : List Md} {f : List DV → Rs DV} {t : TA} {g : GA} (h : SA C W Γ t g ms) (hx : ∀ c d H', W c d H' → XW E c d H') (hf : fitsL ms pm = true := by rfl) (q : mr.fz = true := by rfl) :
    SE C W Γ (tCall (spD C.K C.mg XW pm mr f) [] E t) (gCB f g) mr := by
  intro F H σ ρ L Q hL r k
  show t σ H fun vs H1 => spD C.K C.mg XW pm mr f (vs ++ []) H1 Q E
  refine sa_then h hL r k fun ds F1 H1 vs s1 s2 e1 e2 r1 k1 => ?_
  rw [List.append_nil]
  obtain ⟨a1, r2⟩ := r1.args hf e1 e2
  refine ⟨F1, ds, ⟨Same.refl _, r2.fit.fh, Same.refl _, fun a h => .inl h, r2.fit.tp⟩, a1, ?_⟩
  revert k1
  cases f ds with
  | ok d => exact fun k1 F2 H2 v fp s3 f2 h2 nd => k1 F2 H2 v s3 f2.bh (r2.call q f2 h2 nd)
  | ex c d => exact fun k1 F2 H2 s3 f2 => hx c d H2 (k1 F2 H2 s3 f2.bh (r2.fit.lift f2))
  | stuck => exact fun k1 => k1
/-- the law's end -/
theorem law_end {K : PySem.W.Frag} {mg : Str → Option Value} {f : List DV → Rs DV} {H : Hp} {a : Addr} {ns : List Int} {E : XK} (h : f [.lst (ns.map .int)] = .ok (.bl true)) (hS : SqL K H a (ns.map V.int)) : spD K mg X0 [.sc] .fr f [.ref a] H (fun v _ => v = .bl true) E := by
  refine ⟨H, [.lst (ns.map .int)], ⟨Same.refl _, Same.refl _, Same.refl _, fun a h => .inl h, fun a o h _ => h⟩, ⟨⟨rfl, a, ns, rfl, rfl, hS⟩, trivial⟩, ?_⟩
  rw [h]
  exact fun F' H' v fp _ _ h _ => h.2
end
end DL
end

/-! text DL11 -/
section
set_option maxRecDepth 100000
set_option maxHeartbeats 4000000
/-! the data layer, part 11: stores into what is owned -/
namespace DL
open PySem PySem.Spec PyProof.Rows L2
section
variable {C : Cxt} {W : Wx} {F F' H H' : Hp} {Γ Γb Γ' : List Md} {σ : L2.St} {ρ : EnvD} {L : List Ent} {m ma mb mr me mi : Md} {d : DV} {v : V} {Dn : Ends}
/-! a, b = e1, e2 -/
def gPar (i j : Nat) (g : GA) : GS := fun ρ => match g ρ with
  | .ok [a, b] => .nx ((ρ.set i (some a)).set j (some b))
  | .ex c d => .ex c d
  | _ => .stuck
theorem ss_par {i j : Nat} {t : TA} {g : GA} (h : SA C W Γ t g [ma, mb]) (li : i < Γ.length) (lj : j < Γ.length) (hio : ∀ p ∈ C.io, p.1 ≠ i ∧ p.1 ≠ j) : SS C W mr Γb Γ (tPar i j t) (gPar i j g) ((Γ.set i ma).set j mb) := by
  intro F H σ ρ L Dn hs r k
  show t σ H fun vs H1 => ∃ v w, vs = [v, w] ∧ Dn.nx ((σ.set i (some v)).set j (some w)) H1
  refine h F H σ ρ L _ hs.ok r ?_
  unfold gPar at k
  revert k
  cases g ρ with
  | ex c d => exact fun k F1 H1 s1 s2 f => k F1 H1 s1 f
  | stuck => exact fun k => k
  | ok ds =>
    intro k F1 H1 vs s1 s2 e1 e2 r1
    match vs, ds, e1, e2, r1, k with
    | [x, y], [dx, dy], _, _, r1, k =>
      refine ⟨x, y, rfl, ?_⟩
      have r2 : Rep C F1 H1 Γ σ ρ ((ma, dx, x) :: (mb, dy, y) :: L) := Rep.swap (L := L) r1
      have r3 := r2.put li fun p hp => (hio p hp).1
      have r4 := r3.put (by rw [List.length_set]; exact lj) fun p hp => (hio p hp).2
      exact k F1 H1 _ s1 r4
/-! x += e of ints -/
def gAug (i : Nat) (f : Int → Int → Int) (g : GE) : GS := fun ρ => match lk ρ i with
  | .ok (.int a) => (match g ρ with
    | .ok (.int b) => .nx (ρ.set i (some (.int (f a b))))
    | .ex c d => .ex c d
    | _ => .stuck)
  | _ => .stuck
theorem ss_aug {i : Nat} {f : Int → Int → Int} {t : TE} {g : GE} (h : SE C W Γ t g ma) (hi : Γ[i]? = some m) (hio : ∀ p ∈ C.io, p.1 ≠ i) (q : m.rd = true := by rfl) (qa : ma.rd = true := by rfl) : SS C W mr Γb Γ (tAug i t (ipI f)) (gAug i f g) Γ := by
  intro F H σ ρ L Dn hs r k
  unfold gAug at k
  rcases lk_cases ρ i with ⟨d, e2, e3⟩ | e3
  · rw [e3] at k
    cases d with
    | int a =>
      obtain ⟨x, h1, r0⟩ := r.look hi e2
      have hx : x = .int a := by
        obtain ⟨f, hf⟩ := r0.head
        exact hf.int1
      subst hx
      refine ⟨.int a, h1, ?_⟩
      refine h F H σ ρ L _ hs.ok r ?_
      revert k
      show PS' C W mr Γb Γ F H L Dn (match g ρ with | .ok (.int b) => .nx (ρ.set i (some (.int (f a b)))) | .ex c d => .ex c d | _ => .stuck) → _
      cases g ρ with
      | ex c d => exact fun k F1 H1 s1 s2 f => k F1 H1 s1 f
      | stuck => exact fun k => k
      | ok d =>
        intro k F1 H1 y s1 s2 r1
        have hd := r1.da qa
        cases d with
        | int b =>
          have r2 : Rep C F1 H1 Γ σ ρ ((m, .int (f a b), .int (f a b)) :: L) := r1.tail.cons0 (At.flat q rfl)
          have r3 := r2.put (List.getElem?_eq_some_iff.mp hi).1 hio
          rw [set_id hi] at r3
          exact ⟨a, b, rfl, hd, k F1 H1 _ s1 r3⟩
        | _ => exact k.elim
    | _ => exact k.elim
  · rw [e3] at k
    exact k.elim
/-! xs.append(e) of a name's own list -/
def gApp (i : Nat) (g : GX) : GX := fun ρ => match lk ρ i with
  | .ok (.lst _) => (g ρ).bind fun p => (match lk p.2 i with
    | .ok (.lst ds) => if ds.length < sizeLine then .ok (.non, p.2.set i (some (.lst (ds ++ [p.1])))) else .stuck
    | _ => .stuck)
  | _ => .stuck
theorem sx_app {i : Nat} {t : TE} {g : GX} (hi : Γ[i]? = some (.own m)) (h : SX C W Γ t g m) (hΓ : Γ.all Md.stor = true) (qm : m.stor = true := by rfl) : SX C W Γ (tBM C.K "list" rAppend (tVar i) (tCons t tNil)) (gApp i g) .fr := by
  intro F H σ ρ L Q hs r k
  show ∃ v, σ[i]? = some (some v) ∧ (tyV C.K "list" v H ∧ t σ H fun y H2 => rAppend v [y] H2 Q)
  unfold gApp at k
  rcases lk_cases ρ i with ⟨d, e2, e3⟩ | e3
  · rw [e3] at k
    cases d with
    | lst ds0 =>
      obtain ⟨x, h1, r0⟩ := r.look hi e2
      obtain ⟨f, hf⟩ := r0.head
      have hf : At C F H (.pk m.peek) (.lst ds0) x f := hf
      unfold At at hf
      rw [if_pos (show isLD (.lst ds0) = true from rfl)] at hf
      obtain ⟨a, ws, rfl, hrd, _⟩ := hf
      refine ⟨.ref a, h1, .inl ⟨rfl, ws, .inl hrd⟩, ?_⟩
      refine h F H σ ρ L _ hs r ?_
      revert k
      show PX' C W Γ F H σ L .fr Q ((g ρ).bind fun p => (match lk p.2 i with | .ok (.lst ds) => if ds.length < sizeLine then .ok (.non, p.2.set i (some (.lst (ds ++ [p.1])))) else .stuck | _ => .stuck)) → _
      cases g ρ with
      | ex c d => exact fun k => k
      | stuck => exact fun k => k
      | ok p =>
        obtain ⟨dy, ρ'⟩ := p
        intro k F1 H1 y s1 r1
        have k : PX' C W Γ F H σ L .fr Q (match lk ρ' i with | .ok (.lst ds) => if ds.length < sizeLine then .ok (.non, ρ'.set i (some (.lst (ds ++ [dy])))) else .stuck | _ => .stuck) := k
        rcases lk_cases ρ' i with ⟨d, g2, g3⟩ | g3
        · rw [g3] at k
          cases d with
          | lst ds =>
            have k : PX' C W Γ F H σ L .fr Q (if ds.length < sizeLine then .ok (.non, ρ'.set i (some (.lst (ds ++ [dy])))) else .stuck) := k
            split at k
            · rename_i hz
              obtain ⟨v, h2, r2⟩ := r1.take hi g2
              rw [h1] at h2
              cases h2
              obtain ⟨p, vs, z1, z2, z3, z4, z5, z6⟩ := r2.swap.push hΓ qm
              cases z1
              refine ⟨a, vs, y, rfl, rfl, z2, by rw [← z3]; exact hz, ?_⟩
              have r3 := (z6 (Safe.of hs)).back h1 (.inl hi)
              rw [set_set', set_id hi] at r3
              exact k F1 _ .non s1 (r3.cons0 ⟨rfl, rfl⟩)
            · exact k.elim
          | _ => exact k.elim
        · rw [g3] at k
          exact k.elim
    | _ => exact k.elim
  · rw [e3] at k
    exact k.elim
/-! xs[i] = e of a name's own list -/
theorem Alls.put {R : DV → V → List Addr → Prop} {d : DV} {v : V} {g : List Addr} (h : R d v g) : ∀ {ds : List DV} {vs : List V} {f : List Addr} {j : Nat}, Alls R ds vs f → j < ds.length → ∃ x y z, f = x ++ (y ++ z) ∧ Alls R (ds.set j d) (vs.set j v) (x ++ (g ++ z))
  | [], _, _, j, _, l => by simp at l
  | d1 :: ds, _, _, 0, ⟨w, r, f1, f2, h1, h2, h3, h4⟩, _ => by
    subst h1
    exact ⟨[], f1, f2, h2, v, r, g, f2, rfl, rfl, h, h4⟩
  | d1 :: ds, _, _, j + 1, ⟨w, r, f1, f2, h1, h2, h3, h4⟩, l => by
    subst h1
    obtain ⟨x, y, z, e1, e2⟩ := Alls.put h h4 (j := j) (by simpa using l)
    exact ⟨f1 ++ x, y, z, by rw [h2, e1, List.append_assoc], w, _, f1, x ++ (g ++ z), rfl, by rw [List.append_assoc], h3, e2⟩
theorem Rep.setAt {ds : List DV} {y : V} {j : Nat} (r : Rep C F H Γ σ ρ ((m, d, y) :: (.own m, .lst ds, v) :: L)) (hΓ : Γ.all Md.stor = true) (qm : m.stor = true) (hj : j < ds.length) (hs : storL L) :
    ∃ p vs, v = .ref p ∧ H p = some (.lst vs) ∧ ds.length = vs.length ∧ Rep C F (L2.upd H p (.lst (vs.set j y))) Γ σ ρ ((.own m, .lst (ds.set j d), v) :: L) := by
  obtain ⟨f1, f2, nd, a, g1, g2, h1, h2, g3, g4, h3, h4, h5⟩ := r.own
  unfold At at h4
  rw [if_pos (show isLD (.lst ds) = true from rfl)] at h4
  obtain ⟨p, vs, o, fc, e1, e2, e3, e4, e5, e6, e7⟩ := h4
  obtain rfl : o = .lst vs := e5
  subst e1
  subst e6
  subst h3
  subst h1
  refine ⟨p, vs, rfl, e4, e7.length, ?_⟩
  have np := List.nodup_append.mp nd
  have np2 := List.nodup_append.mp np.2.1
  have np3 := List.nodup_append.mp np2.2.1
  have np4 := List.nodup_cons.mp np3.1
  have n1 : ∀ x ∈ f1, x ≠ p := fun x hx e => np.2.2 x hx p (List.mem_append_right _ (List.mem_append_left _ List.mem_cons_self)) e
  have n2 : ∀ x ∈ g1, x ≠ p := fun x hx e => np2.2.2 x hx p (List.mem_append_left _ List.mem_cons_self) e
  have n3 : ∀ x ∈ fc, x ≠ p := fun x hx e => np4.1 (e ▸ hx)
  have n4 : ∀ x ∈ g4, x ≠ p := fun x hx e => np3.2.2 p List.mem_cons_self x hx e.symm
  have o1 := a.owned
  have o2 := h2.owned
  have o4 := h5.owned
  have nm : ∀ x u, L2.upd H p (.lst (vs.set j y)) x = some u → tupO u = true → H x = some u := fun x u e t => by
    by_cases z : x = p
    · subst z; rw [upd_same] at e; cases e; cases t
    · rw [upd_ne z] at e; exact e
  have lq : ∀ x u, x ≠ p → H x = some u → L2.upd H p (.lst (vs.set j y)) x = some u := fun x u z e => by rw [upd_ne z]; exact e
  have fit : Fit C F (L2.upd H p (.lst (vs.set j y))) := ⟨r.fit.ff, fun x u e => lq x u (fun z => by rw [z, e2] at e; cases e) (r.fit.fh _ _ e), fun x u e => lq x u (fun z => by rw [z, e3] at e; cases e) (r.fit.bh _ _ e), r.fit.f0, fun x u e t => r.fit.tp x u (nm x u e t) t⟩
  have stm : ∀ {m : Md} {d : DV} {v : V} {f : List Addr}, m.stor = true → At C F H m d v f → (∀ x ∈ f, x ≠ p) → At C F (L2.upd H p (.lst (vs.set j y))) m d v f := fun q x k => x.mono (Same.refl _) (fun z hz => (x.owned z hz).1) (fun z hz => upd_ne (k z hz)) (.inl q)
  have e8 : Alls (At C F (L2.upd H p (.lst (vs.set j y))) m) ds vs fc := e7.imp fun d v f hf x => stm qm x fun z hz => n3 z (hf z hz)
  obtain ⟨x, w, z, i1, i2⟩ := Alls.put (stm qm h2 n2) e8 hj
  subst i1
  refine ⟨fit, r.io, f1, (p :: (x ++ (g1 ++ z))) ++ g4, ?_, a.mono (Same.refl _) (fun x hx => (o1 x hx).1) (fun x hx => upd_ne (n1 x hx)) (.inl hΓ), p :: (x ++ (g1 ++ z)), g4, rfl, ?_, h5.safe (Safe.of hs) (fun x hx => (o4 x hx).1) n4⟩
  · have hp : List.Perm (f1 ++ (g1 ++ ((p :: (x ++ (w ++ z))) ++ g4))) (w ++ (f1 ++ ((p :: (x ++ (g1 ++ z))) ++ g4))) := by
      refine List.perm_iff_count.mpr fun b => ?_
      simp only [List.count_append, List.count_cons]
      omega
    exact ((hp.nodup nd)).sublist (List.sublist_append_right _ _)
  · unfold At
    rw [if_pos (show isLD (.lst (ds.set j d)) = true from rfl)]
    exact ⟨p, vs.set j y, _, _, rfl, e2, e3, upd_same, rfl, rfl, i2⟩
theorem ixN_lt {n : Nat} {i : Int} {j : Nat} (h : ixN n i = some j) : j < n := by
  unfold ixN at h
  split at h
  · split at h
    · cases h; omega
    · cases h
  · split at h
    · cases h; omega
    · cases h
def setD (x : DV) (i : DV) (y : DV) : Rs DV := match x, i with
  | .lst ds, .int k => (match ixN ds.length k with
    | some j => .ok (.lst (ds.set j y))
    | none => .stuck)
  | _, _ => .stuck
def gSetI (i : Nat) (gi : GE) (g : GX) : GS := fun ρ => match g ρ with
  | .ok (y, ρ') => (match lk ρ' i with
    | .ok x => (match gi ρ' with
      | .ok k => (match setD x k y with
        | .ok x' => .nx (ρ'.set i (some x'))
        | _ => .stuck)
      | .ex c d => .ex c d
      | .stuck => .stuck)
    | _ => .stuck)
  | .ex c d => .ex c d
  | .stuck => .stuck
theorem ss_seti {i : Nat} {t ti : TE} {g : GX} {gi : GE} (hi : Γ[i]? = some (.own m)) (h : SX C W Γ t g m) (hk : SE C W Γ ti gi mi) (hΓ : Γ.all Md.stor = true) (qm : m.stor = true := by rfl) (qi : mi.rd = true := by rfl) : SS C W mr Γb Γ (tAsg t (gSub (tVar i) ti rSetL)) (gSetI i gi g) Γ := by
  intro F H σ ρ L Dn hs r k
  show t σ H fun x H1 => ∃ v, σ[i]? = some (some v) ∧ ti σ H1 fun z H2 => rSetL v z x H2 fun H3 => Dn.nx σ H3
  refine h F H σ ρ L _ hs r ?_
  unfold gSetI at k
  revert k
  cases g ρ with
  | ex c d => exact fun k => k
  | stuck => exact fun k => k
  | ok p =>
    obtain ⟨dy, ρ'⟩ := p
    intro k F1 H1 y s1 r1
    have k : PS' C W mr Γb Γ F H L Dn (match lk ρ' i with | .ok x => (match gi ρ' with | .ok k => (match setD x k dy with | .ok x' => .nx (ρ'.set i (some x')) | _ => .stuck) | .ex c d => .ex c d | .stuck => .stuck) | _ => .stuck) := k
    rcases lk_cases ρ' i with ⟨dx, g2, g3⟩ | g3
    · rw [g3] at k
      have k : PS' C W mr Γb Γ F H L Dn (match gi ρ' with | .ok k => (match setD dx k dy with | .ok x' => .nx (ρ'.set i (some x')) | _ => .stuck) | .ex c d => .ex c d | .stuck => .stuck) := k
      obtain ⟨v, h2, _⟩ := r1.look hi g2
      refine ⟨v, h2, ?_⟩
      refine hk F1 H1 σ ρ' _ _ (storL_cons qm hs).ok r1 ?_
      revert k
      cases gi ρ' with
      | ex c d => exact fun k F2 H2 s2 s3 f => k F2 H2 (s1.trans s2) f
      | stuck => exact fun k => k
      | ok dk =>
        intro k F2 H2 z s2 s3 r2
        have hz := r2.da qi
        have k : PS' C W mr Γb Γ F H L Dn (match setD dx dk dy with | .ok x' => .nx (ρ'.set i (some x')) | _ => .stuck) := k
        cases dx with
        | lst ds =>
          cases dk with
          | int kk =>
            have k : PS' C W mr Γb Γ F H L Dn (match (match ixN ds.length kk with | some j => (Rs.ok (DV.lst (ds.set j dy)) : Rs DV) | none => .stuck) with | .ok x' => .nx (ρ'.set i (some x')) | _ => .stuck) := k
            cases e : ixN ds.length kk with
            | none => rw [e] at k; exact k.elim
            | some j =>
              rw [e] at k
              have k : PS' C W mr Γb Γ F H L Dn (.nx (ρ'.set i (some (.lst (ds.set j dy))))) := k
              obtain ⟨v2, h3, r3⟩ := r2.tail.take hi g2
              rw [h2] at h3
              cases h3
              obtain ⟨p, vs, z1, z2, z3, r4⟩ := r3.swap.setAt hΓ qm (ixN_lt e) hs
              subst z1
              refine ⟨p, vs, kk, j, rfl, hz, z2, by rw [← z3]; exact e, ?_⟩
              have r5 := r4.back h2 (.inl hi)
              rw [set_set', set_id hi] at r5
              exact k F2 _ σ (s1.trans s2) r5
          | _ => exact k.elim
        | _ => cases dk <;> exact k.elim
    · rw [g3] at k
      exact k.elim
end
end DL
end

/-! text DL12 -/
section
set_option maxRecDepth 100000
set_option maxHeartbeats 4000000
/-! the data layer, part 12: small things that a printed proof names -/
namespace DL
open PySem PySem.Spec PyProof.Rows L2
section
variable {C : Cxt} {W : Wx} {F F' H H' : Hp} {Γ : List Md} {σ : L2.St} {ρ : EnvD} {L : List Ent} {m ma mb mr me mi : Md} {d : DV} {v : V} {Dn : Ends} {st : Bool}
def gYes : GT := fun _ => .ok true
theorem st_yes : ST C W Γ tYes gYes := fun F H σ ρ L Q hL r k => k F H (Same.refl _) (Same.refl _) r
theorem st_tt {t : TE} {g : GE} (h : SE C W Γ t g m) (q : m.rd = true := by rfl) : ST C W Γ (tTest t) (gB g) := st_b h q
theorem nio {i : Nat} : ∀ p ∈ ([] : List (Nat × V × Md)), p.1 ≠ i := fun _ h => nomatch h
theorem nio2 {i j : Nat} : ∀ p ∈ ([] : List (Nat × V × Md)), p.1 ≠ i ∧ p.1 ≠ j := fun _ h => nomatch h
theorem nioL {is : List Nat} : ∀ p ∈ ([] : List (Nat × V × Md)), ∀ i ∈ is, p.1 ≠ i := fun _ h => nomatch h
theorem hx0 : ∀ (c : Str) (d : DV) (H' : Hp), W0 c d H' → X0 E0 c d H' := fun _ _ _ h => h
/-- items that cannot change are frozen by themselves -/
def gImmI (g : GI) : GI := fun ρ => (g ρ).bind fun its => if imms its = true then .ok its else .stuck
theorem imms_get : ∀ {ds : List DV} {i : Nat} {d : DV}, imms ds = true → ds[i]? = some d → imm d = true
  | [], _, _, _, h => by simp at h
  | a :: ds, 0, d, q, h => by
    simp at h
    subst h
    exact ((Bool.and_eq_true _ _).mp q).1
  | a :: ds, i + 1, d, q, h => imms_get (ds := ds) (i := i) ((Bool.and_eq_true _ _).mp q).2 (by simpa using h)
theorem si_imm {wi : TI} {gi : GI} (h : SI C W Γ wi gi m st) (q : m.rd = true := by rfl) : SI C W Γ wi (gImmI gi) .fr st := by
  intro F H σ ρ L R hL r k
  refine h F H σ ρ L R hL r ?_
  unfold gImmI at k
  revert k
  cases gi ρ with
  | ex c d => exact fun k => k
  | stuck => exact fun k => k
  | ok its =>
    show PI' C W Γ F H σ ρ L .fr st R (if imms its = true then .ok its else .stuck) → _
    split
    · rename_i hz
      intro k F1 H1 J E s1 s2 hs hA r1 w
      refine k F1 H1 J E s1 s2 hs hA r1 fun i F2 H2 Γ2 σ2 ρ2 L2 r2 => ?_
      obtain ⟨w1, w2⟩ := w i F2 H2 Γ2 σ2 ρ2 L2 r2
      refine ⟨w1, fun d hd => ⟨(w2 d hd).1, fun x H3 hy => ?_⟩⟩
      obtain ⟨F3, s3, s4, r3⟩ := (w2 d hd).2 x H3 hy
      exact ⟨F3, s3, s4, r3.tail.cons0 ⟨rfl, imm_da r3.fit.tp _ _ (imms_get hz hd) (r3.da q)⟩⟩
    · exact fun k => k.elim
/-- data without a place may be of any mode -/
def gFlat (g : GE) : GE := fun ρ => (g ρ).bind fun d => if (DL.flat d).isSome = true then .ok d else .stuck
theorem se_flat {t : TE} {g : GE} (h : SE C W Γ t g ma) (q : ma.rd = true) (qm : m.rd = true) : SE C W Γ t (gFlat g) m := by
  intro F H σ ρ L Q hL r k
  refine se_then h hL r k fun d F1 H1 x s1 s2 r1 k1 => ?_
  split at k1
  · rename_i hz
    obtain ⟨w, hw⟩ := Option.isSome_iff_exists.mp hz
    have e := da_flat hw (r1.da q)
    subst e
    exact k1.flat r1.tail qm hw
  · exact k1.elim
/-! displays over moved names -/
abbrev GAX := EnvD → Rs (List DV × EnvD)
def PAX' (C : Cxt) (W : Wx) (Γ : List Md) (F H : Hp) (σ : L2.St) (L : List Ent) (ms : List Md) (Q : List V → Hp → Prop) : Rs (List DV × EnvD) → Prop
  | .ok (ds, ρ') => ∀ F' H' vs, Same F F' → ds.length = vs.length → ms.length = vs.length → Rep C F' H' Γ σ ρ' (entsA ms ds vs L) → Q vs H'
  | .ex c d => ∀ F' H', Same F F' → Fit C F' H' → W c d H'
  | .stuck => False
def SXA (C : Cxt) (W : Wx) (Γ : List Md) (t : TA) (g : GAX) (ms : List Md) : Prop :=
  ∀ F H σ ρ L Q, storL L → Rep C F H Γ σ ρ L → PAX' C W Γ F H σ L ms Q (g ρ) → t σ H Q
def xNil : GAX := fun ρ => .ok ([], ρ)
def xCons (ga : GX) (gr : GAX) : GAX := fun ρ => (ga ρ).bind fun p => (gr p.2).bind fun q => .ok (p.1 :: q.1, q.2)
theorem sxa_nil : SXA C W Γ tNil xNil [] := fun F H σ ρ L Q hs r k => k F H [] (Same.refl _) rfl rfl r
theorem sxa_cons {ta : TE} {tr : TA} {ga : GX} {gr : GAX} {ms : List Md} (ha : SX C W Γ ta ga m) (hr : SXA C W Γ tr gr ms) (qo : m.stor = true := by rfl) : SXA C W Γ (tCons ta tr) (xCons ga gr) (m :: ms) := by
  intro F H σ ρ L Q hs r k
  show ta σ H fun x H1 => tr σ H1 fun xs H2 => Q (x :: xs) H2
  refine ha F H σ ρ L _ hs r ?_
  unfold xCons at k
  revert k
  cases ga ρ with
  | ex c d => exact fun k => k
  | stuck => exact fun k => k
  | ok p =>
    obtain ⟨d, ρ1⟩ := p
    intro k F1 H1 x s1 r1
    refine hr F1 H1 σ ρ1 _ _ (storL_cons qo hs) r1 ?_
    revert k
    show PAX' C W Γ F H σ L (m :: ms) Q ((gr ρ1).bind fun q => .ok (d :: q.1, q.2)) → _
    cases gr ρ1 with
    | ex c d => exact fun k F2 H2 s2 f => k F2 H2 (s1.trans s2) f
    | stuck => exact fun k => k
    | ok q =>
      obtain ⟨ds, ρ2⟩ := q
      exact fun k F2 H2 vs s2 e1 e2 r2 => k F2 H2 (x :: vs) (s1.trans s2) (by rw [List.length_cons, List.length_cons, e1]) (by rw [List.length_cons, List.length_cons, e2]) r2
def xTup (g : GAX) : GX := fun ρ => (g ρ).bind fun q => if q.1.length ≤ sizeLine then .ok (.tup q.1, q.2) else .stuck
def xLst (g : GAX) : GX := fun ρ => (g ρ).bind fun q => if q.1.length ≤ sizeLine then .ok (.lst q.1, q.2) else .stuck
theorem sx_tupM {t : TA} {g : GAX} {ms : List Md} (h : SXA C W Γ t g ms) (q : ∀ x ∈ ms, x = m) : SX C W Γ (tTup t) (xTup g) (.tu m) := by
  intro F H σ ρ L Q hs r k
  show t σ H fun xs H1 => xs.length ≤ sizeLine ∧ ∀ p, H1 p = none → Q (.ref p) (L2.upd H1 p (.tup xs))
  refine h F H σ ρ L _ hs r ?_
  unfold xTup at k
  revert k
  cases g ρ with
  | ex c d => exact fun k => k
  | stuck => exact fun k => k
  | ok p =>
    obtain ⟨ds, ρ1⟩ := p
    show PX' C W Γ F H σ L (.tu m) Q (if ds.length ≤ sizeLine then .ok (.tup ds, ρ1) else .stuck) → _
    split
    · rename_i hz
      intro k F1 H1 vs s1 e1 e2 r1
      refine ⟨by rw [← e1]; exact hz, fun p np => ?_⟩
      obtain ⟨sf, r2⟩ := r1.tuple q e2 e1 np
      exact k _ _ _ (s1.trans sf) r2
    · exact fun k => k.elim
theorem sx_tup {t : TA} {g : GAX} {ms : List Md} (h : SXA C W Γ t g ms) (q : ∀ x ∈ ms, x = .fr) : SX C W Γ (tTup t) (xTup g) .fr := sx_fr (sx_tupM h q) rfl
theorem sx_lst {t : TA} {g : GAX} {ms : List Md} (h : SXA C W Γ t g ms) (q : ∀ x ∈ ms, x = m) : SX C W Γ (tLst t) (xLst g) (.own m) := by
  intro F H σ ρ L Q hs r k
  show t σ H fun xs H1 => xs.length ≤ sizeLine ∧ ∀ p, H1 p = none → Q (.ref p) (L2.upd H1 p (.lst xs))
  refine h F H σ ρ L _ hs r ?_
  unfold xLst at k
  revert k
  cases g ρ with
  | ex c d => exact fun k => k
  | stuck => exact fun k => k
  | ok p =>
    obtain ⟨ds, ρ1⟩ := p
    show PX' C W Γ F H σ L (.own m) Q (if ds.length ≤ sizeLine then .ok (.lst ds, ρ1) else .stuck) → _
    split
    · rename_i hz
      intro k F1 H1 vs s1 e1 e2 r1
      refine ⟨by rw [← e1]; exact hz, fun p np => ?_⟩
      exact k F1 _ _ s1 (r1.node q e2 e1 np rfl rfl rfl rfl)
    · exact fun k => k.elim
/-- a list whose items cannot change: its items are frozen by themselves -/
def kidsImm : DV → Bool
  | .lst ds => imms ds
  | .dct _ ds => imms ds
  | d => imm d
def gImmL (g : GE) : GE := fun ρ => (g ρ).bind fun d => if kidsImm d = true then .ok d else .stuck
theorem imms_alls {K : PySem.W.Frag} {mg : Str → Option Value} (tp : ∀ a o, H a = some o → tupO o = true → F a = some o) : ∀ {ds : List DV} {vs : List V}, imms ds = true → DAs K mg H ds vs → DAs K mg F ds vs := fun {ds vs} q h => imms_da tp ds vs q h
theorem se_immL {t : TE} {g : GE} (h : SE C W Γ t g ma) (q : ma.rd = true) : SE C W Γ t (gImmL g) (.pk .fr) := by
  intro F H σ ρ L Q hL r k
  refine se_then h hL r k fun d F1 H1 x s1 s2 r1 k1 => ?_
  split at k1
  · rename_i hz
    have hd := r1.da q
    refine k1.give r1.tail ?_
    cases d with
    | lst ds =>
      obtain ⟨a, vs, e1, e2, e3⟩ := hd
      unfold At
      rw [if_pos (show isLD (.lst ds) = true from rfl)]
      exact ⟨a, vs, e1, e2, Alls.of_das (imms_alls r1.fit.tp hz e3) fun d v x => ⟨rfl, x⟩⟩
    | dct ks ds =>
      obtain ⟨a, vs, e1, e2, e3⟩ := hd
      unfold At
      rw [if_pos (show isLD (.dct ks ds) = true from rfl)]
      exact ⟨a, vs, e1, e2, Alls.of_das (imms_alls r1.fit.tp hz e3) fun d v x => ⟨rfl, x⟩⟩
    | obj c ns ds => cases hz
    | non => exact At.of_fr r1.fit.fh rfl (imm_da r1.fit.tp _ _ hz hd)
    | bl b => exact At.of_fr r1.fit.fh rfl (imm_da r1.fit.tp _ _ hz hd)
    | int i => exact At.of_fr r1.fit.fh rfl (imm_da r1.fit.tp _ _ hz hd)
    | str s => exact At.of_fr r1.fit.fh rfl (imm_da r1.fit.tp _ _ hz hd)
    | tup ds => exact At.of_fr r1.fit.fh rfl (imm_da r1.fit.tp _ _ hz hd)
  · exact k1.elim
end
/-! the rules that speak of the written part, with it named -/
section
variable {X : Cx} {K : PySem.W.Frag}
theorem kx_ix (h : X.K = K) : IxR X (rIxX K) := by subst h; exact ix_X
theorem kx_sl (h : X.K = K) : SlR X (rSlX K) := by subst h; exact sl_X
theorem kx_eq (h : X.K = K) (hu : X.A.units + 64 < cLine) : OpR X (compareOp .Eq) (rEqD K) := by subst h; exact op_eqD hu
theorem kx_ne (h : X.K = K) (hu : X.A.units + 64 < cLine) : OpR X (compareOp .NotEq) (rNeD K) := by subst h; exact op_neD hu
theorem kx_in (h : X.K = K) (hu : X.A.units + 65 < cLine) : OpR X (compareOp .In) (rInX K) := by subst h; exact op_inX hu
theorem kx_notIn (h : X.K = K) (hu : X.A.units + 65 < cLine) : OpR X (compareOp .NotIn) (rNotInX K) := by subst h; exact op_notInX hu
theorem kx_len (h : X.K = K) : CallR X (.builtin "len") (rLenX K) := by subst h; exact call_lenX
theorem kx_list (h : X.K = K) : CallR X (.type "list") (rListOf K) := by subst h; exact call_list_of
theorem kx_sum (h : X.K = K) (hc : X.calm = true) : CallR X (.builtin "sum") (rSum K) := by subst h; exact cr_sum hc
theorem kx_all (h : X.K = K) (hc : X.calm = true) : CallR X (.builtin "all") (rAll K) := by subst h; exact cr_all hc
theorem kx_any (h : X.K = K) (hc : X.calm = true) : CallR X (.builtin "any") (rAny K) := by subst h; exact cr_any hc
theorem kx_max (h : X.K = K) (hc : X.calm = true) : CallR X (.builtin "max") (rMax K) := by subst h; exact cr_max hc
theorem kx_min (h : X.K = K) (hc : X.calm = true) : CallR X (.builtin "min") (rMin K) := by subst h; exact cr_min hc
theorem kx_sorted (h : X.K = K) : CallR X (.builtin "sorted") (rSortedI K) := by subst h; exact cr_sortedI
theorem kx_seq {tg l : Expr} {tl : TE} (h : X.K = K) (hl : PE X l tl) : PI X tg l (iSeq K tl) := by subst h; exact pi_seq hl
theorem kx_tru {a : Expr} {ta : TE} (h : X.K = K) (ha : PE X a ta) (he : ∀ whole, isTrue a X.env whole = (do let v ← whole; standAt a.pos; holding [v] (truthy v))) : PT X a (tTru K ta) := by subst h; exact pt_truth ha he
end
section
variable {C : Cxt} {W : Wx} {Γ : List Md} {m : Md}
theorem si_seqC {t : TE} {g : GE} (h : SE C W Γ t g m) (q : m.ixok = true := by rfl) : SI C W Γ (iSeq C.K t) (gSeqI g) m.kid false := si_seq h q (fun h => by cases h)
theorem si_seqS {t : TE} {g : GE} (h : SE C W Γ t g m) (q : m.ixok = true := by rfl) (hs : m.stor = true := by rfl) : SI C W Γ (iSeq C.K t) (gSeqI g) m.kid true := si_seq h q (fun _ => hs)
end
end DL
namespace L2
open PySem
theorem Room.units65 {k : Nat} {A : Around} (r : Room k A) : A.units + 65 < cLine := by have := r.un; omega
end L2
end

/-! text DLH -/
section
set_option maxRecDepth 100000
set_option maxHeartbeats 4000000
/-! the data layer, the head: facts of the written part by tests of one's own -/
namespace DL
open PySem PySem.Spec PyProof.Rows L2
abbrev Qs := List (PySem.W.Frag → Bool)
def obsX (qs : Qs) (fn : List He.DefD) (K : PySem.W.Frag) : He.AlD := ((qs.all fun q => q K) && fn.all fun d => d.ok K, fn.map fun d => He.fnW K d.at_)
def SaysX (qs : Qs) (fn : List He.DefD) (K : PySem.W.Frag) : Prop := obsX qs fn K = He.valD fn
def obsXG (n : Nat) (qs : Qs) (fn : List He.DefD) (g : Addr → Option Obj) : He.AlD := obsX qs fn (He.frG g (cStatics :: He.asD g n))
def hookX (n : Nat) (qs : Qs) (fn : List He.DefD) : PySem.W.Hook where
  α := He.AlD
  obs := fun s => obsXG n qs fn s.heap.get?
  val := fun _ => He.valD fn
  says := fun _ h => ∃ K : PySem.W.Frag, K.In h ∧ SaysX qs fn K
  of := fun _ _ e => ⟨_, He.frG_in, e⟩
  keeps := fun _ _ _ ⟨K, hK, c⟩ k => ⟨K, PySem.W.Frag.In.keeps hK k, c⟩
theorem obsXG_eq {n : Nat} {qs : Qs} {fn : List He.DefD} {g : Addr → Option Obj} {s : Shared} (h : ∀ a, g a = s.heap.get? a) : obsXG n qs fn g = (hookX n qs fn).obs s := by
  have e : g = s.heap.get? := funext h
  rw [e] <;> rfl
section
variable {qs : Qs} {fn : List He.DefD} {K : PySem.W.Frag}
theorem SaysX.fact (c : SaysX qs fn K) (i : Nat) {q : PySem.W.Frag → Bool} (h : qs[i]? = some q := by rfl) : q K = true := by
  have c1 := ((Bool.and_eq_true _ _).mp (show ((qs.all fun q => q K) && fn.all fun d => d.ok K) = true from congrArg (fun z : He.AlD => z.1) c)).1
  exact List.all_eq_true.mp c1 q (List.mem_of_getElem? h)
theorem SaysX.def_ (c : SaysX qs fn K) (i : Nat) {d : He.DefD} (h : fn[i]? = some d := by rfl) : ∃ fd, FunD K d.name d.qual d.params d.body d.scope (d.dvs K) (d.kws K) (He.fAd K d.at_) fd := by
  have c2 := ((Bool.and_eq_true _ _).mp (show ((qs.all fun q => q K) && fn.all fun d => d.ok K) = true from congrArg (fun z : He.AlD => z.1) c)).2
  have e : fn.map (fun d => He.fnW K d.at_) = fn.map He.DefD.val := congrArg (fun z : He.AlD => z.2) c
  have e2 : (fn.map fun d => He.fnW K d.at_)[i]? = (fn.map He.DefD.val)[i]? := by rw [e]
  rw [List.getElem?_map, List.getElem?_map, h] at e2
  exact He.DefD.funD (Option.some.inj e2) (List.all_eq_true.mp c2 d (List.mem_of_getElem? h))
end
/-- the module's name x is the built-in function of this name -/
def bltB (x : Str) (id : String) (K : PySem.W.Frag) : Bool := match PySem.W.nsIn K mainGlobals x with
  | some (some (.builtin j)) => decide (j = id)
  | _ => false
theorem bltB_ok {K : PySem.W.Frag} {h : Heap} {mg : Str → Option Value} {x : Str} {id : String} (X : K.In h) (G : h.Ns mainGlobals mg) (c : bltB x id K = true) : mg x = some (.builtin id) := by
  unfold bltB at c
  split at c
  · rename_i j e
    have ej : j = id := of_decide_eq_true c
    subst ej
    exact PySem.W.mg_of X G e
  · cases c
end DL
end

/-! text DX0 -/
section
set_option maxRecDepth 100000
set_option maxHeartbeats 4000000
/-! own exceptions, part 0: an __init__ that says super().__init__(at); self.at = at, over ValueError, for the class and its heirs -/
namespace DL
open PySem PySem.Spec PyProof.Rows L2
abbrev exBody (p0 p1 p2 p3 p4 p5 p6 p7 p8 p9 : Pos) : List Stmt :=
  [.Expr (.Call (.Attribute (.Call (.Name "super" p0) [] [] p1) "__init__" p2) [.Name "at" p3] [] p4) p5,
   .Assign [.Attribute (.Name "self" p6) "at" p7] (.Name "at" p8) p9]
abbrev exScope : Scope := { kind := .function, names := [("self", .local), ("at", .local), ("__class__", .free), ("super", .globalImplicit)], isGenerator := false, isCoroutine := false, more := [] }
/-- what such an __init__ keeps -/
def spI (K : PySem.W.Frag) (D : Addr) : Sp := fun vs H Q _ => ∃ (a C : Addr) (v : V), vs = [.ref a, v] ∧ OexC K C ∧ PySem.W.mroIn K C (.ref D) = some true ∧
  PySem.W.subIn K (.ref C) (.type "ValueError") = some true ∧ PySem.W.ks_superIn K C D "__init__" = some (some (.builtin "ValueError.__init__")) ∧ PySem.W.findIn K (.ref C) "at" = some none ∧
  H a = some (exo a C none) ∧ ∀ dx, H dx = none → dx ≠ a → Q .non (upd (upd H dx (exd dx [("at", v)])) a (exo a C (some dx)))
abbrev inEnv (qual : Str) (L f : Addr) (cd : Value) (cc : Addr) : Env := PySem.W.ksEnv qual exScope L f cd cc
def cxI (P : Program) (w : World) (K : PySem.W.Frag) (mg : Str → Option Value) (base : Heap) (qual : Str) (f : Addr) (cd : Value) (cc : Addr) (A : Around) (outer : List Env) (s : Shared) (H : Hp) (E : XK) : Cx where
  prog := P
  w := w
  K := K
  mg := mg
  base := base
  A := A.deeper (inEnv qual s.heap.objs.size f cd cc)
  N := ["self", "at"]
  s_0 := s
  H_0 := H
  env := inEnv qual s.heap.objs.size f cd cc
  outer := outer
  stack := inEnv qual s.heap.objs.size f cd cc :: outer
  ex := []
  calm := true
  fn := fun x => decide (x ≠ "__class__")
  pn := []
  xe := fun e s' => wpAny (model P w) (A.deeper (inEnv qual s.heap.objs.size f cd cc)) (leaving (inEnv qual s.heap.objs.size f cd cc) e) (fun _ s'' => C8.CX0 outer H s E e s'') (fun e' s'' => C8.CX0 outer H s E e' s'') s'
theorem sup_init {P : Program} {w : World} {K : PySem.W.Frag} {mg : Str → Option Value} {base : Heap} {k : Nat} {D fI cc cda : Addr} {qual : Str} {params : Arguments} {ar : Arg} {dV kV doc pm ct oc ccl cl : Value} {an od cdd cld : Option Addr} {osl ccs csl : Array (Option Value)}
    {vs : Array Value} {file : Str} {tf : Tok} {cdD : ClassData} {p0 p1 p2 p3 p4 p5 p6 p7 p8 p9 : Pos}
    (lk : K.lookup fI = some ⟨oc, od, .func (PySem.W.ksFn "__init__" qual params (exBody p0 p1 p2 p3 p4 p5 p6 p7 p8 p9) exScope dV kV doc pm an (.ref cda) ct cc), osl⟩) (hcd : PySem.W.codeIn K (.ref cda) qual = true)
    (lc : K.lookup cda = some ⟨ccl, cdd, .fields vs, ccs⟩) (hvs : vs[2]? = some (.str file tf)) (hfile : ((P.main.file : Str) == file) = true) (lcc : K.lookup cc = some ⟨cl, cld, .cell (some (.ref D)), csl⟩) (hD : PySem.W.clsIn K D = some cdD)
    (hsu : mg "super" = none) (hany : PySem.W.nsIn K cStatics "thirdparty.any" = some none) (htop : (P.main.scope.names.lookup ("super" : Str)).isSome = false) (hpar : (params.posonlyargs ++ params.args).head? = some ar) (har : ar.arg = ("self" : Str))
    (hev : ∀ L : Addr, ∃ pl : Sem Bool, eval (.Call (.Attribute (.Call (.Name "super" p0) [] [] p1) "__init__" p2) [.Name "at" p3] [] p4) (inEnv qual L fI (.ref cda) cc) = (do
        let ov ← attributeBase (.Call (.Name "super" p0) [] [] p1) "__init__" (inEnv qual L fI (.ref cda) cc) (eval (.Call (.Name "super" p0) [] [] p1) (inEnv qual L fI (.ref cda) cc))
        standAt p2.atName
        let (f, first) ← holding [ov] (getMethod ov "__init__" pl)
        callWith p4 f first (backTo p4 (starEach [.Name "at" p3] (inEnv qual L fI (.ref cda) cc))) [])) :
    FnOk P w K mg base C8.CX0 (k + 1) fI (PySem.W.ksFn "__init__" qual params (exBody p0 p1 p2 p3 p4 p5 p6 p7 p8 p9) exScope dV kV doc pm an (.ref cda) ct cc) ["self", "at"] (spI K D) := by
  refine ⟨fun vs H Q E h => ?_, fun A outer s H args us vs Q E hr e0 hb r hsp => ?_⟩
  · obtain ⟨a, C, v, e, _⟩ := h
    rw [e]; rfl
  obtain ⟨a, C, v, e, T, hmro, hsub, hsup, hno, ea, hq⟩ := hsp
  subst e
  cases r with
  | @cons _ u0 _ ur ra rw' =>
  obtain rfl : u0 = Value.ref a := ra
  cases rw' with
  | @cons _ u _ ur2 rv rn =>
  cases rn
  have KX : K.In s.heap := e0.mod.kin.keeps fun b o e => (e0.bs b o e).1
  have lim : s.heap.NoLimit := e0.mod.nolimit.keeps fun b o e => (e0.bs b o e).1
  refine ks_codeAny_call_defAt hr.depth (KX _ _ lk) rfl lim (PySem.W.codeRec_of KX hcd) rfl hb (show ∀ x ∈ exScope.names, x.2 ≠ .cell by decide) (fun y hy => ?_) (fun h₁ hns hk => ?_) rfl rfl rfl
  · rcases List.mem_cons.mp hy with rfl | hy
    · rfl
    · rcases List.mem_cons.mp hy with rfl | hy
      · rfl
      · cases hy
  have I : Inv (cxI P w K mg base qual fI (.ref cda) cc A outer s H E) [] [some (.ref a), some v] H { s with heap := h₁, toks := s.toks + (["self", "at"].zip [Value.ref a, u]).length } := by
    have Kb : K.In base := e0.mod.kin
    have cab : ∀ y c, (inEnv qual s.heap.objs.size fI (.ref cda) cc).cells.lookup y = some c → y = "__class__" ∧ c = cc := fun y c e => by
      have e2 : (match y == ("__class__" : Str) with | true => some cc | false => none) = some c := e
      by_cases q : y = ("__class__" : Str)
      · subst q
        have e3 : some cc = some c := e2
        exact ⟨rfl, (Option.some.inj e3).symm⟩
      · rw [show (y == ("__class__" : Str)) = false from by simpa using q] at e2
        cases e2
    refine ⟨⟨e0.mod, rfl, rfl, rfl, Nat.le_refl _, fun y z c h1 h2 => (cab y c h1).1.trans (cab z c h2).1.symm, fun y hy => ?_, fun y c hn h => absurd (cab y c h).1 (of_decide_eq_true hn), fun _ => hr.hd, Around.frames_deeper e0.frames, .inr ⟨rfl, rfl⟩, fun b z => (nomatch z), e0.bs, e0.bsz, fun b _ _ z => (nomatch z), fun b z => (nomatch z), e0.funs, e0.frf⟩,
      rfl, e0.bare, Un.kept hk, ⟨_, hns, fun i y v' h1 h2 h3 => ?_⟩, fun y c h => ?_, e0.hok.fresh (Nat.le_refl _), fun y c h => ?_, fun p hp => (nomatch hp), e0.hok.kept hk, rfl⟩
    · have hy : exScope.names.lookup y = some .cell ∨ exScope.names.lookup y = some .free := hy
      have hz : y = "__class__" := by
        have hm : ∃ kd, (kd = NameKind.cell ∨ kd = NameKind.free) ∧ (y, kd) ∈ exScope.names := by
          rcases hy with hy | hy
          · exact ⟨_, .inl rfl, PySem.mem_of_lookup hy⟩
          · exact ⟨_, .inr rfl, PySem.mem_of_lookup hy⟩
        obtain ⟨kd, hkd, hm⟩ := hm
        simp only [exScope, List.mem_cons, List.not_mem_nil, Prod.mk.injEq, or_false] at hm
        rcases hm with ⟨_, q⟩ | ⟨_, q⟩ | ⟨q, _⟩ | ⟨_, q⟩
        · subst q; rcases hkd with z | z <;> cases z
        · subst q; rcases hkd with z | z <;> cases z
        · exact q
        · subst q; rcases hkd with z | z <;> cases z
      subst hz
      exact ⟨cc, rfl⟩
    · match i, h1, h2 with
      | 0, h1, h2 =>
        cases h1
        cases h2
        exact ⟨.ref a, rfl, .inl ⟨rfl, rfl⟩⟩
      | 1, h1, h2 =>
        cases h1
        cases h2
        exact ⟨u, rv, .inl ⟨rfl, rfl⟩⟩
      | (n + 2), h1, h2 => cases h1
    · obtain ⟨_, rfl⟩ := cab y c h
      exact ⟨_, ⟨_, hk _ _ (KX _ _ lcc), rfl⟩⟩
    · obtain ⟨_, rfl⟩ := cab y c h
      exact (e0.bs _ _ (Kb _ _ lcc)).2
  have K1 : K.In h₁ := fun b o e => hk _ _ (KX _ _ e)
  show _root_.PySem.wpAt (model P w) (A.deeper (inEnv qual s.heap.objs.size fI (.ref cda) cc)) (.func (exBody p0 p1 p2 p3 p4 p5 p6 p7 p8 p9) (inEnv qual s.heap.objs.size fI (.ref cda) cc)) (execs (exBody p0 p1 p2 p3 p4 p5 p6 p7 p8 p9) (inEnv qual s.heap.objs.size fI (.ref cda) cc)) _ _ _
  obtain ⟨pl, hev⟩ := hev s.heap.objs.size
  refine ks_wpAt_execs_cons (ks_wpAt_Expr_any (ks_wpAt_MethodCall (he := hev) ?_))
  · refine ks_wpAt_super_base rfl rfl rfl rfl (K1 _ _ lk) rfl hpar rfl (K1 _ _ lc) rfl hvs hfile htop ?_
    obtain ⟨mb, hb1, hb2⟩ := I.mod.blt
    refine PySem.W.ks_loadName_global rfl rfl (Calls.loadGlobal_builtin (env := inEnv qual s.heap.objs.size fI (.ref cda) cc) (I.mod.glob.keeps I.bk) hsu (hb1.keeps I.bk) ((hb2 _ (by decide)).trans (by first | boot_by_name | rfl | kernel_rfl)) ⟨rfl, ?_⟩)
    refine wpAny_loadName_free rfl rfl rfl ⟨_, K1 _ _ lcc, rfl⟩ ?_
    rw [har]
    refine wpAny_loadName_local rfl rfl hns (v := .ref a) rfl ?_
    obtain ⟨nm, q, N, bs, bm, sn, sub, ab, col, dd, k0, k1, k2, k3, k5, hC, hbm⟩ := T.cls
    obtain ⟨t1, ho⟩ := exo_at I.hok ea
    have hcl : PySem.W.clsIn K C = some { name := nm, bases := bs, mro := .ref C :: bm, ns := N, qualname := q, hasDict := true, slotNames := sn, subclasses := sub, abstract := ab, collection := col, hasDel := false } := by unfold PySem.W.clsIn; rw [hC] <;> rfl
    obtain ⟨oD, hD1, hD2⟩ : ∃ oD, K.lookup D = some oD ∧ oD.data = .cls cdD := by
      unfold PySem.W.clsIn at hD
      split at hD
      · rename_i c d cd' sl ho
        cases hD
        exact ⟨_, ho, rfl⟩
      · cases hD
    refine ks_wpAny_isType_cls (K1 _ _ hD1) hD2 ⟨rfl, ?_⟩
    refine ks_wpAny_call_super (K1 _ _ hD1) hD2 ho rfl (fun c e => nomatch e) (PySem.W.looks_mroIn K1 hmro) (fun h2 hso k2 => ?_)
    have K2 : K.In h2 := fun b o e => k2 _ _ (K1 _ _ e)
    unfold PySem.W.ks_superIn at hsup
    rw [hcl] at hsup
    have haC : a ≠ C := fun z => by
      rw [z] at ho
      have := K1 _ _ hC
      rw [ho] at this
      cases this
    have hI : PySem.W.InstAt h2 a { cls := .ref C, dict := none, data := .fields #[.ref t1, .none, .none, .none, .bool false, .none] } C none := ⟨k2 _ _ ho, rfl, rfl, trivial⟩
    refine PySem.W.kxs_getMethod PySem.W.kxs_ValueError hso (PySem.W.looks_opaque K2 hany) (l₀ := .ref C :: bm) (fun A Q E s k q => wpAny_bind ((PySem.W.looks_clsIn K2 hcl) A _ E s k (wpAny_pure q))) rfl K2 hsup (hI.type.andThen (PySem.W.looks_subIn K2 hsub)) haC (by decide) ?_
    have J2 : Inv (cxI P w K mg base qual fI (.ref cda) cc A outer s H E) [] [some (.ref a), some v] H ⟨h2, s.gens, s.drawn, s.toks + (["self", "at"].zip [Value.ref a, u]).length, s.os⟩ := I.kept (t' := s.toks + (["self", "at"].zip [Value.ref a, u]).length) k2
    have I2 : Inv (cxI P w K mg base qual fI (.ref cda) cc A outer s H E) [] [some (.ref a), some v] H ⟨h2.push (PySem.W.kxs_mw "ValueError.__init__" a), s.gens, s.drawn, s.toks + (["self", "at"].zip [Value.ref a, u]).length + 1, s.os⟩ :=
      J2.kept (t' := s.toks + (["self", "at"].zip [Value.ref a, u]).length + 1) (fun b o e => Heap.get?_push_of_some _ e)
    have hu : (h2.push (PySem.W.kxs_mw "ValueError.__init__" a)).get? h2.objs.size = some (PySem.W.kxs_mw "ValueError.__init__" a) := Heap.get?_push_at rfl rfl
    have hpin : ∀ p ∈ ([] : List (Addr × Obj)) ++ [(h2.objs.size, PySem.W.kxs_mw "ValueError.__init__" a)], (h2.push (PySem.W.kxs_mw "ValueError.__init__" a)).get? p.1 = some p.2 ∧ H p.1 = none ∧ p.1 ≠ s.heap.objs.size ∧ p.1 ∉ frs outer ∧ ∀ v, p.2.data ≠ .cell v := fun p hp => by
      rcases List.mem_cons.mp (show p ∈ (h2.objs.size, PySem.W.kxs_mw "ValueError.__init__" a) :: [] from hp) with rfl | hp
      · exact ⟨hu, J2.hok.fresh (Nat.le_refl _), Nat.ne_of_gt J2.lt, J2.nofs (Nat.le_refl _), fun v e => by cases e⟩
      · cases hp
    have I3 : Inv (cxI P w K mg base qual fI (.ref cda) cc A outer s H E) [(h2.objs.size, PySem.W.kxs_mw "ValueError.__init__" a)] [some (.ref a), some v] H ⟨h2.push (PySem.W.kxs_mw "ValueError.__init__" a), s.gens, s.drawn, s.toks + (["self", "at"].zip [Value.ref a, u]).length + 1, s.os⟩ :=
      ⟨I2.ok, I2.os, I2.bare, I2.base, I2.loc, I2.cell, I2.free, I2.freeC, hpin, I2.hok, I2.len⟩
    refine PySem.W.kxs_callWith (i := "ValueError.__init__") (x := a) rfl ?_
    have hPA : PA (cxI P w K mg base qual fI (.ref cda) cc A outer s H E) [.Name "at" p3] (tCons (tVar 1) tNil) := pa_cons (pe_var (i := 1) rfl (.inl rfl)) pa_nil
    refine Calls.evalArgs_plain (thn (hPA.run p4 _ _ _ H (fun vs H' => vs = [v] ∧ H = H') I3 ⟨v, rfl, rfl, rfl⟩) fun us s4 z => ?_)
    obtain ⟨vs4, H4, I4, r4, e1, e2⟩ := z
    subst e1 e2
    cases r4 with
    | @cons _ u4 _ ur4 rv4 rn4 =>
    cases rn4
    have hu4 := (I4.pin _ (by exact List.mem_cons_self)).1
    refine ⟨hu4, ?_⟩
    obtain ⟨hh, g, d, tk, os⟩ := s4
    obtain ⟨t4, ho4⟩ := exo_at I4.hok ea
    refine wpAny_call (codeAny_of_tree ?_)
    show wpAny _ _ (callAny (.ref h2.objs.size) ⟨[u4], []⟩) _ _ _
    simp only [callAny]
    refine wpAny_bind (wpAny_load hu4 ?_)
    simp only [PySem.W.kxs_mw, show (Value.type "method-wrapper" == Value.type "method" || Value.type "method-wrapper" == Value.type "builtin_function_or_method" || Value.type "method-wrapper" == Value.type "method-wrapper") = true by decide, if_true]
    refine PySem.W.KFB.if_so (by decide) ?_
    refine wpAny_bind (PySem.W.check_bound_init F.excBase_ValueError.toExcCallFacts (I4.kIn _ _ hC) ho4 rfl ?_)
    refine wpAny_bind (wpAny_pure (wpAny_pure ?_))
    refine ⟨plainId_quiet F.excBase_ValueError.init.plain _, codeAny_builtin F.excBase_ValueError.initEntry ?_⟩
    refine PySem.W.exc_init_tree (cls := .ref C) (t0 := t4) (dv := none) (c2 := .none) (c3 := .none) (b4 := .bool false) ho4 (by rw [sizeLine_eq]; simp) (fun h5 k5 e5 _ => ?_)
    have J := I4.write (t' := tk) (x := a) (e := a) (o := exo a C none) (by rw [ea]; exact True.intro) (.inl rfl) k5 ⟨_, e5⟩ (exo_ok e5)
    have eu : upd H a (exo a C none) = H := by
      funext b
      by_cases hb : b = a
      · rw [hb, upd_same, ea]
      · rw [upd_ne hb]
    rw [eu] at J
    have T' : OexC (cxI P w K mg base qual fI (.ref cda) cc A outer s H E).K C := T
    have hPS : PSs (cxI P w K mg base qual fI (.ref cda) cc A outer s H E) [.Assign [.Attribute (.Name "self" p6) "at" p7] (.Name "at" p8) p9] _ := pss_cons (ps_ost (pe_var (i := 0) rfl (.inl rfl)) (pe_var (i := 1) rfl (.inl rfl))) pss_nil
    refine wpAt_of_wpAny (thn (hPS.run _ _ _ H { nx := fun _ H' => Q .non H', rt := Q } J ?_) fun fl s6 hs => ?_)
    · refine ⟨v, rfl, .ref a, rfl, a, C, rfl, T, hno, .inl ⟨ea, fun dx n ne => hq dx n ne⟩⟩
    · cases fl with
      | next =>
        obtain ⟨σ', H', J6, q6⟩ := hs
        exact ⟨.non, H', J6.os, J6.bare, J6.base, J6.hok, rfl, q6⟩
      | ret u6 =>
        obtain ⟨v6, σ', H', J6, rv6, q6⟩ := hs
        exact ⟨v6, H', J6.os, J6.bare, J6.base, J6.hok, rv6, q6⟩
      | brk =>
        obtain ⟨_, _, _, q6⟩ := hs
        exact False.elim q6
      | cont =>
        obtain ⟨_, _, _, q6⟩ := hs
        exact False.elim q6
end DL
end

/-! text DX1 -/
section
set_option maxRecDepth 100000
set_option maxHeartbeats 4000000
/-! own exceptions, part 1: raise, try, what a handler asks -/
namespace DL
open PySem PySem.Spec PyProof.Rows L2
/-- what is wanted of an exception of one of the classes ecs, at the data -/
def XO (mg : Str → Option Value) (ecs : List Str) (E : XK) : Wx := fun c d H =>
  c ∈ ecs → ∀ (Ca dd : Addr) (v : V), mg c = some (.ref Ca) → flat d = some v → H dd = some (.xd [("at", v)]) → E (.ref Ca) (some dd) H
/-- what the written part says of the own exception class at Ca (its __init__ is D's, at fI) -/
structure ExF (K : PySem.W.Frag) (D fI Ca : Addr) : Prop where
  oc : OexC K Ca
  mro : PySem.W.mroIn K Ca (.ref D) = some true
  sub : PySem.W.subIn K (.ref Ca) (.type "ValueError") = some true
  sup : PySem.W.ks_superIn K Ca D "__init__" = some (some (.builtin "ValueError.__init__"))
  no : PySem.W.findIn K (.ref Ca) "at" = some none
  ini : PySem.W.findIn K (.ref Ca) "__init__" = some (some (.ref fI))
  xf : XfC K Ca
  cla : PySem.W.findIn K (.ref Ca) "__class__" = some (some (.builtin "object.__class__"))
  spe : PySem.W.specialIn K (.builtin "object.__class__") "__get__" = some (some (.builtin "getset_descriptor.__get__"))
  tak : PySem.W.takesIn K (.builtin "object.__class__") = some true
  obj : PySem.W.mroIn K Ca (.type "object") = some true
section
variable {C : Cxt} {W : Wx} {F F' H H' : Hp} {Γ Γb Γ' : List Md} {σ : L2.St} {ρ : EnvD} {L : List Ent} {m mr : Md} {d : DV} {v : V} {Dn : Ends}
def gRaise (c : Str) (ga : GA) : GS := fun ρ => match ga ρ with
  | .ok [d] => if (flat d).isSome = true then .ex c d else .stuck
  | .ex c d => .ex c d
  | _ => .stuck
/-- raise c(e) -/
def tRaiseO (K : PySem.W.Frag) (Ca D : Addr) (ta : TA) (E : XK) : TS := fun _ σ H => tMkO Ca (spI K D) [] ta σ H E
theorem xd_tup {fs : List (Str × V)} : tupO (.xd fs) = false := rfl
theorem Fit.xd {dx : Addr} {fs : List (Str × V)} (e : Fit C F H) (n : H dx = none) : Fit C F (upd H dx (.xd fs)) :=
  e.alloc (same_upd n) fun a o h q => by
    by_cases z : a = dx
    · subst z
      rw [upd_same] at h
      cases h
      cases q
    · rw [upd_ne z] at h
      exact h
theorem ss_raise {c : Str} {Ca D fI : Addr} {ecs : List Str} {E : XK} {ta : TA} {ga : GA} (h : SA C W Γ ta ga [m]) (T : ExF C.K D fI Ca) (hm : C.mg c = some (.ref Ca)) (hc : c ∈ ecs) (hx : ∀ c d H', W c d H' → XO C.mg ecs E c d H') (q : m.rd = true := by rfl) :
    SS C W mr Γb Γ (tRaiseO C.K Ca D ta E) (gRaise c ga) Γ' := by
  intro F H σ ρ L Dn hs r k
  show ta σ H fun vs H1 => vs.length ≤ 1000 ∧ ∀ a, H1 a = none → spI C.K D (.ref a :: (vs ++ [])) (upd H1 a (exo a Ca none)) _ _
  refine h F H σ ρ L _ hs.ok r ?_
  unfold gRaise at k
  revert k
  cases ga ρ with
  | ex c d => exact fun k F1 H1 s1 s2 f1 => k F1 H1 s1 f1
  | stuck => exact fun k => k.elim
  | ok ds =>
    intro k F1 H1 vs s1 s2 e1 e2 r1
    cases vs with
    | nil => cases e2
    | cons x vs =>
      cases vs with
      | cons y vs => simp at e2
      | nil =>
        cases ds with
        | nil => cases e1
        | cons d ds =>
          cases ds with
          | cons d2 ds => simp at e1
          | nil =>
            have k : PS' C W mr Γb Γ' F H L Dn (if (DL.flat d).isSome = true then .ex c d else .stuck) := k
            split at k
            · rename_i hz
              obtain ⟨w, hw⟩ := Option.isSome_iff_exists.mp hz
              have r2 : Rep C F1 H1 Γ σ ρ ((m, d, x) :: L) := r1
              have ex := da_flat hw (r2.da q)
              subst ex
              refine ⟨by simp, fun a na => ⟨a, Ca, x, rfl, T.oc, T.mro, T.sub, T.sup, T.no, upd_same, fun dx ndx nea => ⟨rfl, dx, [("at", x)], upd_same, ?_, ?_, ?_⟩⟩⟩
              · rw [upd_ne nea, upd_same]
              · rw [upd_ne nea] at ndx
                exact ndx
              · rw [upd_ne nea] at ndx
                have eH : upd (L2.del (upd (upd (upd H1 a (exo a Ca none)) dx (exd dx [("at", x)])) a (exo a Ca (some dx))) a) dx (.xd [("at", x)]) = upd H1 dx (.xd [("at", x)]) := by
                  funext b
                  by_cases hb : b = dx
                  · rw [hb, upd_same, upd_same]
                  · rw [upd_ne hb, upd_ne hb]
                    by_cases ha : b = a
                    · rw [ha, del_same, na]
                    · rw [del_ne ha, upd_ne ha, upd_ne hb, upd_ne ha]
                rw [eH]
                exact hx _ _ _ (k F1 _ s1 (r2.fit.xd ndx)) hc Ca dx x hm hw upd_same
            · exact k.elim
/-! ### what a handler asks -/
/-- isinstance(error, X): error is what the handler holds, at a, of the class cls, its dict d -/
def rIsX (D fI : Addr) (K : PySem.W.Frag) (a : Addr) (cls : Value) (d : Option Addr) : List V → Hp → VK → Prop := fun xs H Q => ∃ (Ca dd : Addr) (c : V) (cv : Value) (b : Bool) (fs : List (Str × V)), cls = .ref Ca ∧ d = some dd ∧ ExF K D fI Ca ∧ xs = [.ref a, c] ∧ (∀ u, RelV c u → u = cv) ∧
  PySem.W.kitOne K (.ref Ca) cv = some b ∧ H dd = some (.xd fs) ∧ Q (.bl b) H
theorem ex_inst {X : Cx} {pins : List (Addr × Obj)} {σ : L2.St} {H : Hp} {s : Shared} {a Ca dd : Addr} {oe : Obj} {fs : List (Str × V)} (hok : HOk X.prog X.w H s.heap) (hg : s.heap.get? a = some oe) (hz : Zc (.ref Ca) (some dd) oe) (hf : ∃ vs, oe.data = .fields vs) (hd : H dd = some (.xd fs)) :
    ∃ (od : Obj) (mA : Str → Option Value), PySem.W.InstAt s.heap a oe Ca (some od) ∧ (∀ f, RelO (fs.lookup f) (mA f)) ∧ ∀ f, PySem.W.lookIn f od = some (mA f) := by
  obtain ⟨vs, hv⟩ := hf
  obtain ⟨mA, hns, hr⟩ : ObjOk X.prog X.w H s.heap dd (.xd fs) := hok dd _ hd
  obtain ⟨od, ho, hl⟩ := lookIn_ns hns
  have nc : PySem.W.notCls oe = true := by
    unfold PySem.W.notCls
    rw [hv] <;> rfl
  exact ⟨od, mA, ⟨hg, hz.1, nc, by rw [hz.2]; exact ho⟩, hr, hl⟩
theorem call_isX {X : Cx} {a D fI : Addr} {cls : Value} {d : Option Addr} {oe : Obj} {pn : List (Addr × Obj)} (hz : Zc cls d oe) (hf : ∃ vs, oe.data = .fields vs) : CallR (X.suite a ((a, oe) :: pn)) (.builtin "isinstance") (rIsX D fI X.K a cls d) := by
  intro pins s σ H xs us Q I r h
  obtain ⟨Ca, dd, c, cv, b, fs, e1, e2, T, e, hcv, hk, hd, q⟩ := h
  subst e1 e2 e
  cases r with
  | @cons _ ua _ ur ra rr =>
  cases rr with
  | @cons _ uc _ ur2 rc rn =>
  cases rn
  obtain rfl : ua = Value.ref a := ra
  obtain rfl := hcv _ rc
  have hg := (I.pin (a, oe) (List.mem_append_left _ List.mem_cons_self)).1
  obtain ⟨od, mA, J, _, _⟩ := ex_inst (X := X) (pins := pins) (σ := σ) I.hok hg hz hf hd
  have hcl : (PySem.W.clsIn X.K Ca).isSome = true := by
    obtain ⟨cd, e, _⟩ := PySem.W.any_some T.xf.hdC
    rw [e] <;> rfl
  exact PySem.W.kia_one (PySem.W.kitx_exc hcl T.xf.ga T.xf.gg T.xf.exC T.cla T.spe T.tak T.obj) I.kIn J hk (fun z => nomatch z) fun tk => ⟨.bl b, H, I.kept (t' := tk) fun _ _ z => z, rfl, q⟩
/-- the exception's dict stays -/
def KeepsX (C : Cxt) (dd : Addr) (v : V) : Prop := ∀ F H, Fit C F H → H dd = some (.xd [("at", v)])
def gIsX (b : Bool) : GE := fun _ => .ok (.bl b)
theorem se_isX {i : Nat} {a Ca dd D fI Xa : Addr} {b : Bool} {v : V} (T : ExF C.K D fI Ca) (hio : (i, V.ref a, Md.fr) ∈ C.io) (hF : KeepsX C dd v) (hk : PySem.W.kitOne C.K (.ref Ca) (.ref Xa) = some b) (q : m.rd = true := by rfl) :
    SE C W Γ (tCB (rIsX D fI C.K a (.ref Ca) (some dd)) (tCons (tVar i) (tCons (tC (.ref Xa)) tNil))) (gIsX b) m := by
  intro F H σ ρ L Q hL r k
  have h1 := (r.io _ hio).1
  refine ⟨.ref a, h1, ⟨Ca, dd, .ref Xa, .ref Xa, b, [("at", v)], rfl, rfl, T, rfl, fun u e => e, hk, hF _ _ r.fit, ?_⟩⟩
  exact k.flat r q rfl
/-- error.at -/
def tAtX (D fI : Addr) (K : PySem.W.Frag) (a : Addr) (cls : Value) (d : Option Addr) (te : TE) : TE := fun σ H Q => te σ H fun x H1 => ∃ (Ca dd : Addr) (fs : List (Str × V)) (v : V), x = .ref a ∧ cls = .ref Ca ∧ d = some dd ∧ ExF K D fI Ca ∧ H1 dd = some (.xd fs) ∧ fs.lookup ("at" : Str) = some v ∧ Q v H1
theorem pe_atX {X : Cx} {a D fI : Addr} {oe : Obj} {cls : Value} {d : Option Addr} {pn : List (Addr × Obj)} {e : Expr} {te : TE} {pos : Pos} (hz : Zc cls d oe) (hf : ∃ vs, oe.data = .fields vs) (he : PE (X.suite a ((a, oe) :: pn)) e te) (hb : attributeBase e "at" X.env (eval e X.env) = eval e X.env := by rfl) :
    PE (X.suite a ((a, oe) :: pn)) (.Attribute e "at" pos) (tAtX D fI X.K a cls d te) := by
  refine ⟨fun pins s σ H Q I h => attr_of hb (thn (he.run pins s σ H _ I h) fun u s1 z => ?_)⟩
  obtain ⟨x, H1, I1, rx, Ca, dd, fs, v, ex, e1, e2, T, hd, hl, q⟩ := z
  subst ex e1 e2
  obtain rfl : u = Value.ref a := rx
  have hg := (I1.pin (a, oe) (List.mem_append_left _ List.mem_cons_self)).1
  obtain ⟨od, mA, J, hr, hlk⟩ := ex_inst (X := X) (pins := pins) (σ := σ) I1.hok hg hz hf hd
  obtain ⟨u, hu, ru⟩ := RelO.some_of (v := v) (o := mA "at") (hl ▸ hr "at")
  exact HandSPX.exc_get I1.kIn J T.xf.ga T.xf.gg T.xf.exC (PySem.W.findObj_own T.xf.hdC T.no rfl (by rw [hlk, hu])) (handed_of ru) ⟨v, H1, I1.tok _, ru, q⟩
def gAt (d : DV) : GE := fun _ => .ok d
theorem se_at {i : Nat} {a Ca dd D fI : Addr} {v : V} (T : ExF C.K D fI Ca) (hio : (i, V.ref a, Md.fr) ∈ C.io) (hF : KeepsX C dd v) (hd : flat d = some v) (q : m.rd = true := by rfl) :
    SE C W Γ (tAtX D fI C.K a (.ref Ca) (some dd) (tVar i)) (gAt d) m := by
  intro F H σ ρ L Q hL r k
  have h1 := (r.io _ hio).1
  refine ⟨.ref a, h1, Ca, dd, [("at", v)], v, rfl, rfl, rfl, T, hF _ _ r.fit, by simp [List.lookup], ?_⟩
  exact k.flat r q hd
/-! ### try -/
theorem Takes.len {X : Cx} {W : WX} (t : Takes X W) : Takes X (fun c d σ H => σ.length = X.N.length → W c d σ H) := fun u s' ⟨a, B, sI, pins, σ, H, cls, d, e, I, nb, up, sky, na, os, ag, w⟩ =>
  t u s' ⟨a, B, sI, pins, σ, H, cls, d, e, I, nb, up, sky, na, os, ag, w I.len⟩
/-- the wish in a try's body, for any values of the names -/
abbrev anyS (n : Nat) (W : WX) : XK := fun cls d H => ∀ σ : L2.St, σ.length = n → W cls d σ H
theorem pass_try {X : Cx} {W : WX} {n : Nat} (t : Takes X W) (h : X.N.length = n) : Passes (L2.CX X.prog X.w) X (anyS n W) :=
  passes_call (W := fun c d σ H => σ.length = X.N.length → W c d σ H) (Takes.len t) fun cls d σ H k l => k σ (l.trans h)
def gTry (n : Nat) (gb : GS) (gh : Str → DV → GS) : GS := fun ρ => match gb ρ with
  | .ex c d => if (flat d).isSome = true then (match gh c d (List.replicate n none) with
    | .rt e ρ' => .rt e ρ'
    | _ => .stuck) else .stuck
  | o => o
def tTryX (K : PySem.W.Frag) (cw : Value) (n i : Nat) (tb : XK → TS) (ts : Addr → Value → Option Addr → TS) (Wout : WX) : TS := fun D σ H => tb (anyS n (wAs K cw i ts Wout D)) D σ H
theorem slots_any : ∀ (Γ : List Md) (σ : L2.St), σ.length = Γ.length → Slots C F H Γ σ (List.replicate Γ.length none) []
  | [], [], _ => rfl
  | m :: Γ, s :: σ, h => ⟨[], [], rfl, rfl, slots_any Γ σ (by simpa using h)⟩
  | [], _ :: _, h => by cases h
  | _ :: _, [], h => by cases h
theorem At.same {C C' : Cxt} (hK : C'.K = C.K) (hm : C'.mg = C.mg) (hB : C'.Bp = C.Bp) : ∀ {m : Md} {d : DV} {v : V} {fp : List Addr}, At C F H m d v fp → At C' F H m d v fp := by
  intro m
  induction m with
  | fr | bo | sc =>
    intro d v fp h
    unfold At at h ⊢
    first
      | (rw [hK, hm, hB]; exact h)
      | (rw [hK, hm]; exact h)
      | (rw [hK]; exact h)
  | pk m ih | po m ih | tu m ih =>
    intro d v fp h
    unfold At at h ⊢
    split at h
    · rename_i z
      rw [if_pos z]
      obtain ⟨a, vs, h1, h2, h3⟩ := h
      exact ⟨a, vs, h1, by first | (rw [hK, hm]; exact h2) | (rw [hK]; exact h2), h3.imp fun _ _ _ _ x => ih x⟩
    · rename_i z
      rw [if_neg z, hK, hm]
      exact h
  | own m ih | ob m ih =>
    intro d v fp h
    unfold At at h ⊢
    split at h
    · rename_i z
      rw [if_pos z]
      obtain ⟨a, vs, o, fc, h1, h2, h3, h4, h5, h6, h7⟩ := h
      exact ⟨a, vs, o, fc, h1, h2, by rw [hB]; exact h3, h4, by rw [hm]; exact h5, h6, h7.imp fun _ _ _ _ x => ih x⟩
    · rename_i z
      rw [if_neg z, hK, hm]
      exact h
theorem Slots.same {C C' : Cxt} (hK : C'.K = C.K) (hm : C'.mg = C.mg) (hB : C'.Bp = C.Bp) : ∀ {Γ : List Md} {σ : L2.St} {ρ : EnvD} {fp : List Addr}, Slots C F H Γ σ ρ fp → Slots C' F H Γ σ ρ fp
  | [], [], [], _, h => h
  | m :: Γ, s :: σ, r :: ρ, _, ⟨f1, f2, e, h1, h2⟩ => ⟨f1, f2, e, by
      cases r with
      | none => exact h1
      | some d =>
        obtain ⟨v, e1, e2⟩ := h1
        exact ⟨v, e1, At.same hK hm hB e2⟩, Slots.same hK hm hB h2⟩
  | [], [], _ :: _, _, h => h.elim
  | [], _ :: _, _, _, h => h.elim
  | _ :: _, [], _, _, h => h.elim
  | _ :: _, _ :: _, [], _, h => h.elim
theorem Exs.same {C C' : Cxt} (hK : C'.K = C.K) (hm : C'.mg = C.mg) (hB : C'.Bp = C.Bp) : ∀ {L : List Ent} {fp : List Addr}, Exs C F H L fp → Exs C' F H L fp
  | [], _, h => h
  | (_, _, _) :: _, _, ⟨f1, f2, e, h1, h2⟩ => ⟨f1, f2, e, At.same hK hm hB h1, Exs.same hK hm hB h2⟩
theorem ss_try {cw : Value} {n i : Nat} {ecs : List Str} {tb : XK → TS} {ts : Addr → Value → Option Addr → TS} {Wout : WX} {gb : GS} {gh : Str → DV → GS} {Γh : List Md} (hb : ∀ E, SS C (XO C.mg ecs E) mr Γb Γ (tb E) gb Γ')
    (hcl : ∀ c ∈ ecs, ∀ Ca, C.mg c = some (.ref Ca) → PySem.W.exmOne C.K (.ref Ca) cw = some true)
    (hh : ∀ (F0 : Hp) (c : Str) (d : DV) (v : V) (a Ca dd : Addr), c ∈ ecs → C.mg c = some (.ref Ca) → flat d = some v → KeepsX ⟨C.K, C.mg, C.Bp, F0, [(i, .ref a, .fr)]⟩ dd v → ∃ Γ2, SS ⟨C.K, C.mg, C.Bp, F0, [(i, .ref a, .fr)]⟩ W0 mr [] Γh (ts a (.ref Ca) (some dd)) (gh c d) Γ2)
    (hn : Γh.length = n) (hi : Γh[i]? = some .fr) (hio : C.io = []) : SS C W mr Γb Γ (tTryX C.K cw n i tb ts Wout) (gTry n gb gh) Γ' := by
  intro F H σ ρ L Dn hs r k
  refine hb (anyS n (wAs C.K cw i ts Wout Dn)) F H σ ρ L Dn hs r ?_
  unfold gTry at k
  revert k
  cases eb : gb ρ with
  | nx ρ' => exact fun k => k
  | rt d ρ' => exact fun k => k
  | bk ρ' => exact fun k => k
  | ct ρ' => exact fun k => k
  | stuck => exact fun k => k
  | ex c d =>
    intro k F1 H1 s1 f1 hc Ca dd v hm hv hd σ1 l1
    have k : PS' C W mr Γb Γ' F H L Dn (if (flat d).isSome = true then (match gh c d (List.replicate n none) with
      | .rt e ρ' => .rt e ρ'
      | _ => .stuck) else .stuck) := k
    rw [if_pos (by rw [hv]; rfl)] at k
    refine ⟨true, hcl c hc Ca hm, fun _ a na => ?_, fun z => nomatch z⟩
    have lΓ : σ.length = Γ.length := by
      obtain ⟨f1, f2, _, hS, _⟩ := r.own
      exact hS.len.1
    have sl : σ1.length = n := l1
    have key : ∃ F2, Same F1 F2 ∧ Same F2 H1 ∧ (∀ a, F2 a ≠ none → C.F0 a ≠ none ∨ C.Bp a = none ∨ ∃ o, C.Bp a = some o ∧ tupO o = true) ∧ (F2 dd = some (.xd [("at", v)]) ∨ C.Bp dd = some (.xd [("at", v)])) := by
      cases e : C.Bp dd with
      | some o =>
        have z := f1.bh _ _ e
        rw [hd] at z
        cases z
        exact ⟨F1, Same.refl _, f1.fh, f1.f0, .inr rfl⟩
      | none =>
        refine ⟨upd F1 dd (.xd [("at", v)]), fun b o h => ?_, fun b o h => ?_, fun b h => ?_, .inl upd_same⟩
        · by_cases hb : b = dd
          · subst hb
            have z := f1.fh _ _ h
            rw [hd] at z
            cases z
            exact upd_same
          · rw [upd_ne hb]
            exact h
        · by_cases hb : b = dd
          · subst hb
            rw [upd_same] at h
            cases h
            exact hd
          · rw [upd_ne hb] at h
            exact f1.fh _ _ h
        · by_cases hb : b = dd
          · subst hb
            exact .inr (.inl e)
          · rw [upd_ne hb] at h
            exact f1.f0 _ h
    obtain ⟨F2, s2, s3, f0, hk⟩ := key
    have hK : KeepsX ⟨C.K, C.mg, C.Bp, F2, [(i, .ref a, .fr)]⟩ dd v := fun F3 H3 f3 => by
      rcases hk with z | z
      · exact f3.fh _ _ (f3.ff _ _ z)
      · exact f3.bh _ _ z
    obtain ⟨Γ2, hss⟩ := hh F2 c d v a Ca dd hc hm hv hK
    have back : ∀ {F3 H3 : Hp}, Fit ⟨C.K, C.mg, C.Bp, F2, [(i, .ref a, .fr)]⟩ F3 H3 → Fit C F3 H3 := fun {F3 H3} f3 => by
      refine ⟨(f1.ff.trans s2).trans f3.ff, f3.fh, f3.bh, fun b h => ?_, f3.tp⟩
      rcases f3.f0 b h with z | z
      · exact f0 b z
      · exact .inr z
    have hil : i < σ1.length := by
      rw [sl, ← hn]
      exact (List.getElem?_eq_some_iff.mp hi).1
    have rep : Rep ⟨C.K, C.mg, C.Bp, F2, [(i, .ref a, .fr)]⟩ F2 H1 Γh (σ1.set i (some (.ref a))) (List.replicate n none) [] := by
      refine ⟨⟨Same.refl _, s3, f1.bh, fun b h => .inl h, fun b o h q => s2 _ _ (f1.tp b o h q)⟩, fun p hp => ?_, [], [], List.nodup_nil, ?_, rfl⟩
      · rcases List.mem_cons.mp hp with rfl | hp
        · exact ⟨List.getElem?_set_self hil, hi⟩
        · cases hp
      · rw [← hn]
        exact slots_any Γh _ (by rw [List.length_set, sl, hn])
    refine hss F2 H1 _ _ [] _ rfl rep ?_
    revert k
    cases gh c d (List.replicate n none) with
    | rt e ρ' =>
      intro k F3 H3 Γr σ3 L3 v3 s4 r3
      have r4 : Rep C F3 H3 Γr σ3 ρ' ((mr, e, v3) :: L3) := by
        obtain ⟨g1, g2, nd, hS, hE⟩ := r3.own
        refine ⟨back r3.fit, fun p hp => ?_, g1, g2, nd, Slots.same (C := ⟨C.K, C.mg, C.Bp, F2, [(i, .ref a, .fr)]⟩) (C' := C) rfl rfl rfl hS, Exs.same (C := ⟨C.K, C.mg, C.Bp, F2, [(i, .ref a, .fr)]⟩) (C' := C) rfl rfl rfl hE⟩
        rw [hio] at hp
        cases hp
      exact k F3 H3 Γr σ3 L3 v3 ((s1.trans s2).trans s4) r4
    | _ => exact fun k => k.elim
end
end DL
end

/-! text DX2 -/
section
set_option maxRecDepth 100000
set_option maxHeartbeats 4000000
/-! own exceptions, part 2: defs that let them out -/
namespace DL
open PySem PySem.Spec PyProof.Rows L2
section
/-- THE RULE of a def, whatever it lets out -/
theorem fnDX {P : Program} {w : World} {CX : CXT} {XW : XK → Wx} {K : PySem.W.Frag} {mg : Str → Option Value} {base : Heap} {k : Nat} {x qual : Str} {st : Stmt} {f : Addr} {fd : FuncData} {N ps : List Str} {pm Γl : List Md} {mr : Md} {g : GS}
    (Fn : FunD K x qual (defArgs st) (defBody st) (defScope st) [] [] f fd) (S : FnScope N ps (defScope st)) (hp : pm.length = ps.length) (hN : pm.length + Γl.length = N.length) (qr : mr.rd = true)
    (hb : ∀ (cdv : Value) (A : Around) (outer : List PySem.Env) (s : Shared) (H : Hp) (E : XK), Room k (A.deeper (envOfC qual (defScope st) s.heap.objs.size f cdv)) →
      ∃ t, PSs (cxOf CX P w K mg base N qual (defScope st) f cdv A outer s H E) (defBody st) t ∧ ∀ (Bp F0 : Hp), ∃ Γ', SS ⟨K, mg, Bp, F0, []⟩ (XW E) mr [] (pm ++ Γl) t g Γ') :
    FnOk P w K mg base CX (k + 1) f fd ps (spD K mg XW pm mr (runB g N.length)) := by
  refine Fn.ok S (fun vs H Q E h => ?_) fun cdv A outer s H vs Q E hr h => ?_
  · obtain ⟨F, ds, _, h2, _⟩ := h
    rw [h2.len.2, hp]
  · obtain ⟨F, ds, h1, h2, h3⟩ := h
    obtain ⟨t, ht, hs⟩ := hb cdv A outer s H E hr
    obtain ⟨l1, l2⟩ := h2.len
    obtain ⟨Γ', hs⟩ := hs H F
    refine ⟨t, ht, hs F H (start N vs) (startD N.length ds) [] _ rfl ?_ ?_⟩
    · refine ⟨h1, fun p hp => (by cases hp), [], [], List.nodup_nil, ?_, rfl⟩
      unfold L2.start startD
      rw [l1, l2, show N.length - pm.length = Γl.length by omega]
      exact slots_start Γl h2
    · unfold runB at h3
      revert h3
      cases g (startD N.length ds) with
      | nx ρ' => exact fun h3 F1 H1 σ1 s1 r1 => h3 F1 H1 .non [] s1 r1.fit (At.flat qr rfl) List.nodup_nil
      | rt d ρ' =>
        intro h3 F1 H1 Γr σ1 L1 v s1 r1
        obtain ⟨f1, f2, nd, a, g1, g2, e1, e2, e3⟩ := r1.own
        subst e1
        exact h3 F1 H1 v g1 s1 r1.fit e2 (nd.sublist (List.Sublist.trans (List.sublist_append_left _ _) (List.sublist_append_right _ _)))
      | bk ρ' => exact fun h => h.elim
      | ct ρ' => exact fun h => h.elim
      | ex c d => exact fun h3 F1 H1 s1 f1 => h3 F1 H1 s1 f1
      | stuck => exact fun h => h
theorem law_endX {XW : XK → Wx} {K : PySem.W.Frag} {mg : Str → Option Value} {f : List DV → Rs DV} {H : Hp} {a : Addr} {ns : List Int} {E : XK} (h : f [.lst (ns.map .int)] = .ok (.bl true)) (hS : SqL K H a (ns.map V.int)) : spD K mg XW [.sc] .fr f [.ref a] H (fun v _ => v = .bl true) E := by
  refine ⟨H, [.lst (ns.map .int)], ⟨Same.refl _, Same.refl _, Same.refl _, fun a h => .inl h, fun a o h _ => h⟩, ⟨⟨rfl, a, ns, rfl, rfl, hS⟩, trivial⟩, ?_⟩
  rw [h]
  exact fun F' H' v fp _ _ h _ => h.2
/-- what the text says of the root of the own exceptions: its class at D, its __init__ at fI -/
structure XIn (P : Program) (K : PySem.W.Frag) (mg : Str → Option Value) where
  D : Addr
  fI : Addr
  fd : FuncData
  ok : ∀ (w : World) (base : Heap) (k : Nat), FnOk P w K mg base C8.CX0 (k + 1) fI fd ["self", "at"] (spI K D)
  b : Binds K fd ["self", "at"] []
  t : PySem.W.typeIn K (.ref fI) = some (.type "function")
theorem kx_raise {X : Cx} {P : Program} {K : PySem.W.Frag} {mg : Str → Option Value} {j : Nat} {x : Str} {Ca : Addr} {p pos pos2 : Pos} {e : Expr} {es : List Expr} {ta : TA} {E : XK} (hK : X.K = K) (hP : X.prog = P) (hG : X.mg = mg) (I : XIn P K mg) (T : ExF K I.D I.fI Ca) (hr : Room j X.A) (h2 : 2 ≤ j)
    (hm : mg x = some (.ref Ca)) (hg : Gl X x) (hc : X.calm = true) (tk : Takes X (fun cls d _ H => E cls d H)) (ha : PA X (e :: es) ta) (hdb : (x == ("__debug__" : Str)) = false := by decide)
    (he : starEach (e :: es) X.env = (false, eval e X.env) :: starEach es X.env := by rfl) (hpl : (backTo pos (starEach es X.env)).any (·.1) = false := by rfl) :
    PS X (.Raise (some (.Call (.Name x p) (e :: es) [] pos)) none pos2) (tRaiseO K Ca I.D ta E) := by
  subst hK hP hG
  exact ps_raise (W := fun cls d _ H => E cls d H) hc tk (pmk_oex (k := 1) T.oc T.ini I.t (I.ok X.w X.base 0) (hr.mono h2) I.b .nil (fun _ _ _ _ _ _ _ h => h.elim) hg hm ha hdb he hpl)
/-- what a def of this context lets out -/
theorem px0 {P : Program} {w : World} {K : PySem.W.Frag} {mg : Str → Option Value} {base : Heap} {N : List Str} {qual : Str} {sc : Scope} {f : Addr} {cdv : Value} {A : Around} {outer : List PySem.Env} {s : Shared} {H : Hp} {E : XK} :
    Passes (L2.CX P w) (cxOf (L2.CX P w) P w K mg base N qual sc f cdv A outer s H E) E := passes_call (W := fun cls d _ H => E cls d H) (takes_of rfl rfl rfl rfl) fun _ _ _ _ h => h
theorem tk0 {P : Program} {w : World} {K : PySem.W.Frag} {mg : Str → Option Value} {base : Heap} {N : List Str} {qual : Str} {sc : Scope} {f : Addr} {cdv : Value} {A : Around} {outer : List PySem.Env} {s : Shared} {H : Hp} {E : XK} :
    Takes (cxOf (L2.CX P w) P w K mg base N qual sc f cdv A outer s H E) (fun cls d _ H => E cls d H) := takes_of rfl rfl rfl rfl
def EN : XK := fun _ _ _ => False
/-- nothing of it comes out -/
theorem passN {X : Cx} : Passes (L2.CX X.prog X.w) X EN := fun _ _ _ _ _ _ _ ⟨_, _, _, _, _, _, _, _, _, _, _, _, h⟩ => h.elim
/-- no exception is taken further -/
theorem takesN {X : Cx} : Takes X (fun _ _ _ _ => False) := fun _ _ ⟨_, _, _, _, _, _, _, _, _, _, _, _, _, _, _, _, h⟩ => h.elim
theorem hxN {mg : Str → Option Value} {ecs : List Str} : ∀ (c : Str) (d : DV) (H' : Hp), W0 c d H' → XO mg ecs EN c d H' := fun _ _ _ h => h.elim
theorem hxI {W : Wx} : ∀ (c : Str) (d : DV) (H' : Hp), W c d H' → W c d H' := fun _ _ _ h => h
def gNX (g : GE) : GE := fun ρ => match g ρ with
  | .ok d => .ok d
  | _ => .stuck
theorem se_nx {C : Cxt} {W : Wx} {Γ : List Md} {t : TE} {g : GE} {m : Md} (h : SE C W0 Γ t g m) : SE C W Γ t (gNX g) m := by
  intro F H σ ρ L Q hL r k
  refine h F H σ ρ L Q hL r ?_
  unfold gNX at k
  revert k
  cases g ρ with
  | ok d => exact fun k => k
  | ex c d => exact fun k => k.elim
  | stuck => exact fun k => k
theorem nio1 {i j : Nat} {v : V} {m : Md} (h : i ≠ j) : ∀ p ∈ [(i, v, m)], p.1 ≠ j := fun p hp => by
  rcases List.mem_cons.mp hp with rfl | hp
  · exact h
  · cases hp
theorem nth_mem {xs : List Str} {x : Str} (i : Nat) (h : xs[i]? = some x) : x ∈ xs := List.mem_of_getElem? h
/-- try: body / except x as n: suite, nothing taken further -/
theorem kx_try {X : Cx} {K : PySem.W.Frag} {x nm : Str} {cw : Value} {n i : Nat} {body suite : List Stmt} {b₀ : Stmt} {np pos pos' : Pos} {tb : XK → TS} {ts : Addr → Value → Option Addr → TS} (hK : X.K = K) (hs : X.stack = X.env :: X.outer) (hf : X.env.frame = some X.env.locals) (hN : X.N.Nodup) (hn : X.N.length = n)
    (hi : X.N[i]? = some nm) (hln : X.env.kindOf nm = some .local) (hg : Gl X x) (hd : (x == ("__debug__" : Str)) = false) (hm : X.mg x = some cw)
    (hb : ∀ (E : XK) (pn : List (Addr × Obj)) (xe : Value → Shared → Prop), Passes (L2.CX X.prog X.w) (X.tr pn xe) E → PassesOwn (model X.prog X.w) X.A X.env xe → PSs (X.tr pn xe) body (tb E))
    (hsu : ∀ (a : Addr) (oe : Obj) (cls : Value) (d : Option Addr) (pn : List (Addr × Obj)), Zc cls d oe → (∃ vs, oe.data = .fields vs) → PSs (X.suite a ((a, oe) :: pn)) (b₀ :: suite) (ts a cls d)) :
    PS X (.Try body [.ExceptHandler (some (.Name x np)) (some nm) (b₀ :: suite) pos'] [] [] pos) (tTryX K cw n i tb ts (fun _ _ _ _ => False)) := by
  subst hK
  exact ps_try_as (tb := fun W => tb (anyS n W)) hs hf hN hi hln ⟨hg, hd, .inl hm⟩ takesN (fun W pn xe t pw => hb (anyS n W) pn xe (pass_try t hn) pw) hsu
/-! a choice as a test -/
def tIfT (c a b : TT) : TT := fun σ H Q => c σ H fun z H1 => if z = true then a σ H1 Q else b σ H1 Q
theorem pt_ifT {X : Cx} {c a b : Expr} {tc ta tb : TT} {pos : Pos} (hc : PT X c tc) (ha : PT X a ta) (hb : PT X b tb) : PT X (.IfExp c a b pos) (tIfT tc ta tb) := by
  refine ⟨fun pins s σ H Q I h => ?_⟩
  unfold PySem.isTrue
  refine wpAny_bind (thn (hc.run pins s σ H _ I h) fun z s1 k => ?_)
  obtain ⟨H1, I1, q⟩ := k
  cases z with
  | true => exact ha.run pins s1 σ H1 Q I1 q
  | false => exact hb.run pins s1 σ H1 Q I1 q
def gIfT (c a b : GT) : GT := fun ρ => (c ρ).bind fun z => if z = true then a ρ else b ρ
theorem st_ifT {C : Cxt} {W : Wx} {Γ : List Md} {t ta tb : TT} {f ga gb : GT} (h : ST C W Γ t f) (ha : ST C W Γ ta ga) (hb : ST C W Γ tb gb) : ST C W Γ (tIfT t ta tb) (gIfT f ga gb) := by
  intro F H σ ρ L Q hL r k
  show t σ H fun c H1 => if c = true then ta σ H1 Q else tb σ H1 Q
  refine st_thenT h hL r k fun z F1 H1 s1 s2 r1 k1 => ?_
  cases z with
  | true => rw [if_pos rfl] at k1 ⊢; exact ha F1 H1 σ ρ L Q hL r1 k1
  | false => rw [if_neg Bool.false_ne_true] at k1 ⊢; exact hb F1 H1 σ ρ L Q hL r1 k1
end
end DL
end

/-! text DX3 -/
section
set_option maxRecDepth 100000
set_option maxHeartbeats 4000000
/-! own exceptions, part 3: what the written part must say, as tests -/
namespace DL
open PySem PySem.Spec PyProof.Rows L2
def eqV (o : Option (Option Value)) (v : Option (Option Value)) : Bool := decide (o = v)
theorem band {a b : Bool} (h : (a && b) = true) : a = true ∧ b = true := (Bool.and_eq_true _ _).mp h
def iniAt (K : PySem.W.Frag) (x : Str) : Addr := match PySem.W.findIn K (.ref (He.ga K x)) "__init__" with
  | some (some (.ref f)) => f
  | _ => 0
abbrev IniW : Type := Option (Str × Str × Arguments × FuncBody × Scope × Addr × Addr)
def iniW (K : PySem.W.Frag) (x : Str) : IniW := match K.lookup (iniAt K x) with
  | some ⟨_, _, .func fd, _⟩ => some (fd.name, fd.qualname, fd.params, fd.body, fd.scope, fd.globals, fd.builtins)
  | _ => none
/-- the code object of the file pf -/
def codF (K : PySem.W.Frag) (pf : Str) (cda : Addr) : Bool := match K.lookup cda with
  | some ⟨_, _, .fields vs, _⟩ => (match (vs[2]? : Option Value) with
    | some (.str file _) => pf == file
    | _ => false)
  | _ => false
/-- the cell of the class D -/
def celF (K : PySem.W.Frag) (D cc : Addr) : Bool := match K.lookup cc with
  | some ⟨_, _, .cell (some (.ref E)), _⟩ => decide (E = D)
  | _ => false
def noneV : Value → Bool
  | .none => true
  | _ => false
theorem noneV_ok {v : Value} (h : noneV v = true) : v = .none := by
  cases v <;> first | rfl | cases h
def iniB (x pf : Str) (K : PySem.W.Frag) : Bool := match K.lookup (iniAt K x) with
  | some ⟨_, _, .func fd, _⟩ => (match fd.closure, fd.code with
    | [(cn, cc)], .ref cda => noneV fd.defaults && (decide (cn = ("__class__" : Str)) && (PySem.W.codeIn K (.ref cda) fd.qualname && (codF K pf cda && (celF K (He.ga K x) cc && ((PySem.W.clsIn K (He.ga K x)).isSome && decide (PySem.W.typeIn K (.ref (iniAt K x)) = some (.type "function")))))))
    | _, _ => false)
  | _ => false
def thpB (K : PySem.W.Frag) : Bool := eqV (PySem.W.nsIn K cStatics "thirdparty.any") (some none)
theorem init_of {P : Program} {K : PySem.W.Frag} {mg : Str → Option Value} {x qual : Str} {params : Arguments} {ar : Arg} {p0 p1 p2 p3 p4 p5 p6 p7 p8 p9 : Pos}
    (e : iniW K x = (some (("__init__" : Str), qual, params, FuncBody.stmts (exBody p0 p1 p2 p3 p4 p5 p6 p7 p8 p9), exScope, mainGlobals, builtinsNs) : IniW)) (q : iniB x P.main.file K = true) (ha : thpB K = true) (hsu : mg "super" = none) (htop : (P.main.scope.names.lookup ("super" : Str)).isSome = false)
    (hpar : (params.posonlyargs ++ params.args).head? = some ar) (har : ar.arg = ("self" : Str))
    (hb : ∀ (kV doc pm ct : Value) (an : Option Addr) (cda cc : Addr) (u v : Value), bindArgs (PySem.W.ksFn "__init__" qual params (exBody p0 p1 p2 p3 p4 p5 p6 p7 p8 p9) exScope .none kV doc pm an (.ref cda) ct cc) ⟨[u, v], []⟩ = pure [(("self" : Str), u), (("at" : Str), v)])
    (hev : ∀ (L fI cda cc : Addr), ∃ pl : Sem Bool, eval (.Call (.Attribute (.Call (.Name "super" p0) [] [] p1) "__init__" p2) [.Name "at" p3] [] p4) (inEnv qual L fI (.ref cda) cc) = (do
        let ov ← attributeBase (.Call (.Name "super" p0) [] [] p1) "__init__" (inEnv qual L fI (.ref cda) cc) (eval (.Call (.Name "super" p0) [] [] p1) (inEnv qual L fI (.ref cda) cc))
        standAt p2.atName
        let (f, first) ← holding [ov] (getMethod ov "__init__" pl)
        callWith p4 f first (backTo p4 (starEach [.Name "at" p3] (inEnv qual L fI (.ref cda) cc))) [])) :
    ∃ I : XIn P K mg, I.D = He.ga K x ∧ I.fI = iniAt K x := by
  unfold iniB at q
  unfold iniW at e
  cases lk : K.lookup (iniAt K x) with
  | none => rw [lk] at q; cases q
  | some o =>
    obtain ⟨oc, od, dt, osl⟩ := o
    rw [lk] at q e
    cases dt with
    | func fd =>
      obtain ⟨n1, n2, n3, n4, n5, n6, n7, n8, n9, n10, n11, n12, n13, n14, n15⟩ := fd
      have e2 : (some (n1, n2, n3, n4, n5, n6, n15) : IniW) = some (("__init__" : Str), qual, params, FuncBody.stmts (exBody p0 p1 p2 p3 p4 p5 p6 p7 p8 p9), exScope, mainGlobals, builtinsNs) := e
      simp only [Option.some.injEq, Prod.mk.injEq] at e2
      obtain ⟨h1, h2, h3, h4, h5, h6, h7⟩ := e2
      subst h1 h2 h3 h4 h5 h6 h7
      dsimp only at q
      split at q
      · rename_i cn cc cda
        obtain ⟨q0, r0⟩ := band q
        have e0 := noneV_ok q0
        subst e0
        clear q
        obtain ⟨q1, q⟩ := band r0
        obtain ⟨q2, q⟩ := band q
        obtain ⟨q3, q⟩ := band q
        obtain ⟨q4, q⟩ := band q
        obtain ⟨q5, q6⟩ := band q
        have ecn := of_decide_eq_true q1
        subst ecn
        unfold codF at q3
        split at q3
        · rename_i ccl cdd vs ccs lc
          split at q3
          · rename_i file tf hvs
            unfold celF at q4
            split at q4
            · rename_i cl cld E csl lcc
              have eD := of_decide_eq_true q4
              subst eD
              obtain ⟨cdD, hD⟩ := Option.isSome_iff_exists.mp q5
              refine ⟨⟨_, iniAt K x, _, fun w base k => sup_init (k := k) lk q2 lc hvs q3 lcc hD hsu (of_decide_eq_true ha) htop hpar har (fun L => hev L _ _ _), ?_, of_decide_eq_true q6⟩, rfl, rfl⟩
              refine Binds.all fun us hl => ?_
              match us, hl with
              | [u, v], _ => exact hb _ _ _ _ _ _ _ u v
            · cases q4
          · cases q3
        · cases q3
      · cases q
    | _ => cases q
/-! the own exception classes -/
def excB (K : PySem.W.Frag) (C : Addr) : Bool := match K.lookup C with
  | some ⟨.type t, _, .cls cd, sl⟩ => decide (t = "type") && (match cd.mro, sl.toList with
    | .ref C' :: bm, [_, _, _, _, some (.builtin n), _] => decide (C' = C) && (decide (n = "ValueError.__new__") && (!cd.hasDel && (cd.hasDict && PySem.HandSPX.refsVE bm)))
    | _, _ => false)
  | _ => false
theorem excB_ok {K : PySem.W.Frag} {C : Addr} (h : excB K C = true) : ∃ nm q N bs bm sn sub ab col dd k0 k1 k2 k3 k5, K.lookup C = some (excClassObj nm q C N bs bm true sn sub ab col dd k0 k1 k2 k3 k5 "ValueError.__new__") ∧ PySem.HandSPX.refsVE bm = true := by
  unfold excB at h
  split at h
  · rename_i t dd cd sl lk
    obtain ⟨h1, h⟩ := band h
    have e1 := of_decide_eq_true h1
    subst e1
    split at h
    · rename_i C' bm k0 k1 k2 k3 n k5 hm hs
      obtain ⟨_, h⟩ := band h
      obtain ⟨h1, h⟩ := band h
      obtain ⟨h2, h⟩ := band h
      obtain ⟨h3, h⟩ := band h
      obtain ⟨h4, h5⟩ := band h
      have e1 := of_decide_eq_true h1
      have e2 := of_decide_eq_true h2
      subst e1 e2
      obtain ⟨c1, c2, c3, c4, c5, c6, c7, c8, c9, c10, c11⟩ := cd
      dsimp only at hm h3 h4
      subst hm h4
      have e3 : c11 = false := by simpa using h3
      subst e3
      obtain ⟨l⟩ := sl
      have e4 : l = _ := hs
      subst e4
      exact ⟨_, _, _, _, _, _, _, _, _, _, _, _, _, _, _, lk, h5⟩
    · cases h
  · cases h
def exfB (x c : Str) (K : PySem.W.Frag) : Bool := excB K (He.ga K c) && (eqV (PySem.W.findIn K (.ref (He.ga K c)) "__setattr__") (some (some (.builtin "object.__setattr__"))) && (decide (PySem.W.subIn K (.ref (He.ga K c)) (.type "BaseException") = some true) &&
  (decide (PySem.W.typeIn K (.ref (He.ga K c)) = some (.type "type")) && (PySem.W.keepIn K (.ref (He.ga K c)) && (decide (PySem.W.mroIn K (He.ga K c) (.ref (He.ga K x)) = some true) && (decide (PySem.W.subIn K (.ref (He.ga K c)) (.type "ValueError") = some true) &&
  (eqV (PySem.W.ks_superIn K (He.ga K c) (He.ga K x) "__init__") (some (some (.builtin "ValueError.__init__"))) && (eqV (PySem.W.findIn K (.ref (He.ga K c)) "at") (some none) && (eqV (PySem.W.findIn K (.ref (He.ga K c)) "__init__") (some (some (.ref (iniAt K x)))) &&
  (xfB K (He.ga K c) && (eqV (PySem.W.findIn K (.ref (He.ga K c)) "__class__") (some (some (.builtin "object.__class__"))) && (eqV (PySem.W.specialIn K (.builtin "object.__class__") "__get__") (some (some (.builtin "getset_descriptor.__get__"))) &&
  (decide (PySem.W.takesIn K (.builtin "object.__class__") = some true) && decide (PySem.W.mroIn K (He.ga K c) (.type "object") = some true))))))))))))))
theorem exfB_ok {K : PySem.W.Frag} {x c : Str} (h : exfB x c K = true) : ExF K (He.ga K x) (iniAt K x) (He.ga K c) := by
  obtain ⟨a1, h⟩ := band h
  obtain ⟨a2, h⟩ := band h
  obtain ⟨a3, h⟩ := band h
  obtain ⟨a4, h⟩ := band h
  obtain ⟨a5, h⟩ := band h
  obtain ⟨a6, h⟩ := band h
  obtain ⟨a7, h⟩ := band h
  obtain ⟨a8, h⟩ := band h
  obtain ⟨a9, h⟩ := band h
  obtain ⟨a10, h⟩ := band h
  obtain ⟨a11, h⟩ := band h
  obtain ⟨a12, h⟩ := band h
  obtain ⟨a13, h⟩ := band h
  obtain ⟨a14, a15⟩ := band h
  exact ⟨⟨excB_ok a1, of_decide_eq_true a2, of_decide_eq_true a3, of_decide_eq_true a4, a5⟩, of_decide_eq_true a6, of_decide_eq_true a7, of_decide_eq_true a8, of_decide_eq_true a9, of_decide_eq_true a10, xfB_ok a11, of_decide_eq_true a12, of_decide_eq_true a13, of_decide_eq_true a14, of_decide_eq_true a15⟩
def gloB (ecs : List Str) (K : PySem.W.Frag) : Bool := ecs.all fun c => (He.Fa.glo c).ok K
def clsB (x : Str) (ecs : List Str) (K : PySem.W.Frag) : Bool := ecs.all fun c => exfB x c K
def exmB (x : Str) (ecs : List Str) (K : PySem.W.Frag) : Bool := ecs.all fun c => decide (PySem.W.exmOne K (.ref (He.ga K c)) (.ref (He.ga K x)) = some true)
def isB (ecs : List Str) (K : PySem.W.Frag) : Bool := ecs.all fun c => ecs.all fun y => decide (PySem.W.kitOne K (.ref (He.ga K c)) (.ref (He.ga K y)) = some (decide (c = y)))
section
variable {K : PySem.W.Frag} {h : Heap} {mg : Str → Option Value} {x : Str} {ecs : List Str}
theorem glo_at (X : K.In h) (G : h.Ns mainGlobals mg) (q : gloB ecs K = true) {c : Str} (hc : c ∈ ecs) : mg c = some (.ref (He.ga K c)) := He.glo_ok X G (List.all_eq_true.mp q c hc)
theorem glo_eq (X : K.In h) (G : h.Ns mainGlobals mg) (q : gloB ecs K = true) {c : Str} (hc : c ∈ ecs) {Ca : Addr} (e : mg c = some (.ref Ca)) : Ca = He.ga K c := by
  rw [glo_at X G q hc] at e
  cases e
  rfl
theorem cls_at (X : K.In h) (G : h.Ns mainGlobals mg) (q : gloB ecs K = true) (q2 : clsB x ecs K = true) : ∀ c ∈ ecs, ∀ Ca, mg c = some (.ref Ca) → ExF K (He.ga K x) (iniAt K x) Ca := fun c hc Ca e => by
  rw [glo_eq X G q hc e]
  exact exfB_ok (List.all_eq_true.mp q2 c hc)
theorem exm_at (X : K.In h) (G : h.Ns mainGlobals mg) (q : gloB ecs K = true) (q2 : exmB x ecs K = true) : ∀ c ∈ ecs, ∀ Ca, mg c = some (.ref Ca) → PySem.W.exmOne K (.ref Ca) (.ref (He.ga K x)) = some true := fun c hc Ca e => by
  rw [glo_eq X G q hc e]
  exact of_decide_eq_true (List.all_eq_true.mp q2 c hc)
theorem is_at (X : K.In h) (G : h.Ns mainGlobals mg) (q : gloB ecs K = true) (q2 : isB ecs K = true) : ∀ c ∈ ecs, ∀ Ca, mg c = some (.ref Ca) → ∀ y ∈ ecs, ∀ Ya, mg y = some (.ref Ya) → PySem.W.kitOne K (.ref Ca) (.ref Ya) = some (decide (c = y)) := fun c hc Ca e y hy Ya e2 => by
  rw [glo_eq X G q hc e, glo_eq X G q hy e2]
  exact of_decide_eq_true (List.all_eq_true.mp (List.all_eq_true.mp q2 c hc) y hy)
end
end DL
end

/-! text DO0 -/
section
set_option maxRecDepth 100000
set_option maxHeartbeats 4000000
/-! objects: fields, making, methods; an object is frozen behind its __init__ -/
namespace DL
open PySem PySem.Spec PyProof.Rows L2
section
variable {C : Cxt} {W : Wx} {F F' H H' : Hp} {Γ Γb Γ' : List Md} {σ : L2.St} {ρ : EnvD} {L : List Ent} {m ma mb mr me mi : Md} {d : DV} {v : V} {Dn : Ends}
/-! ### a field is read -/
@[reducible] def Md.fld : Md → Bool
  | .fr => true
  | .bo => true
  | .po .fr => true
  | _ => false
theorem Rep.flds {c : Str} {ns : List Str} {ds : List DV} (r : Rep C F H Γ σ ρ ((m, .obj c ns ds, v) :: L)) (q : m.fld = true) :
    ∃ a Ca dx vs, v = .ref a ∧ C.mg c = some (.ref Ca) ∧ H a = some (.ins Ca dx (ns.zip vs)) ∧ ns.length = vs.length ∧ Alls (At C F H m.kid) ds vs [] := by
  obtain ⟨f, h⟩ := r.head
  match m, q, h with
  | .fr, _, h =>
    obtain ⟨a, vs, h1, ⟨Ca, dx, h2, h3, h4⟩, h5⟩ := h.2
    exact ⟨a, Ca, dx, vs, h1, h2, r.fit.fh _ _ h3, h4, h5.at fun d v x => ⟨rfl, x⟩⟩
  | .bo, _, h =>
    obtain ⟨a, vs, h1, ⟨Ca, dx, h2, h3, h4⟩, h5⟩ := h.2
    exact ⟨a, Ca, dx, vs, h1, h2, r.fit.bh _ _ h3, h4, Alls.of_das h5 fun d v x => ⟨rfl, x⟩⟩
  | .po .fr, _, h =>
    unfold At at h
    rw [if_pos (show isObj (.obj c ns ds) = true from rfl)] at h
    obtain ⟨a, vs, h1, h2, h3⟩ := h
    obtain ⟨Ca, dx, g1, g2, g3⟩ := h2
    exact ⟨a, Ca, dx, vs, h1, g1, g2, g3, h3.pt fun d v f x => ⟨rfl, x.2⟩⟩
theorem Alls.lookup {R : DV → V → List Addr → Prop} {f : Str} {d : DV} : ∀ {ns : List Str} {ds : List DV} {vs : List V}, Alls R ds vs [] → (ns.zip ds).lookup f = some d → ∃ v, (ns.zip vs).lookup f = some v ∧ R d v []
  | [], _, _, _, e => by simp at e
  | n :: ns, [], _, _, e => by simp at e
  | n :: ns, d1 :: ds, _, ⟨v, r, f1, f2, h1, h2, h3, h4⟩, e => by
    subst h1
    have e1 : f1 = [] := (List.append_eq_nil_iff.mp h2.symm).1
    have e2 : f2 = [] := (List.append_eq_nil_iff.mp h2.symm).2
    subst e1
    subst e2
    rw [List.zip_cons_cons, List.lookup_cons] at e ⊢
    cases z : f == n with
    | true =>
      rw [z] at e
      cases e
      exact ⟨v, rfl, h3⟩
    | false =>
      rw [z] at e
      exact Alls.lookup h4 e
def gFld (c f : Str) (g : GE) : GE := fun ρ => (g ρ).bind fun d => match d with
  | .obj c' ns ds => if c' = c then ofO ((ns.zip ds).lookup f) else .stuck
  | _ => .stuck
theorem se_fld {c f : Str} {Ca : Addr} {t : TE} {g : GE} (h : SE C W Γ t g m) (hm : C.mg c = some (.ref Ca)) (hc : Cls C.K Ca) (hn : NoAttr C.K Ca f) (q : m.fld = true := by rfl) : SE C W Γ (tFld C.K t f) (gFld c f g) m.kid := by
  intro F H σ ρ L Q hL r k
  show t σ H fun x H1 => ∃ a C' dx fs v, x = .ref a ∧ H1 a = some (.ins C' dx fs) ∧ Cls C.K C' ∧ NoAttr C.K C' f ∧ fs.lookup f = some v ∧ Q v H1
  refine se_then h hL r k fun d F1 H1 x s1 s2 r1 k1 => ?_
  cases d with
  | obj c' ns ds =>
    replace k1 : PE' C W Γ F1 H1 σ ρ L m.kid Q (if c' = c then ofO ((ns.zip ds).lookup f) else .stuck) := k1
    split at k1
    · rename_i hz
      subst hz
      obtain ⟨a, Cb, dx, vs, e1, e2, e3, e4, e5⟩ := r1.flds q
      rw [hm] at e2
      cases e2
      cases e : (ns.zip ds).lookup f with
      | none => rw [e] at k1; exact k1.elim
      | some d =>
        rw [e] at k1
        obtain ⟨v, l1, l2⟩ := e5.lookup e
        exact ⟨a, Ca, dx, _, v, e1, e3, hc, hn, l1, PE'.give r1.tail k1 l2⟩
    · exact k1.elim
  | _ => exact k1.elim
/-! ### self.f = e, in __init__ -/
theorem putF_new {f : Str} {y : V} : ∀ {ns : List Str} {vs : List V}, f ∉ ns → ns.length = vs.length → putF f y (ns.zip vs) = (ns ++ [f]).zip (vs ++ [y])
  | [], [], _, _ => rfl
  | n :: ns, w :: vs, h, e => by
    have h1 : n ≠ f := fun z => h (z ▸ List.mem_cons_self)
    rw [List.zip_cons_cons, List.cons_append, List.cons_append, List.zip_cons_cons]
    unfold putF
    rw [if_neg h1, putF_new (fun z => h (List.mem_cons_of_mem _ z)) (by simpa using e)]
  | [], _ :: _, _, e => by cases e
  | _ :: _, [], _, e => by cases e
theorem Rep.putF {c f : Str} {ns : List Str} {ds : List DV} {dy : DV} {y : V} (r : Rep C F H Γ σ ρ ((.fr, dy, y) :: (.ob .fr, .obj c ns ds, v) :: L)) (hΓ : Γ.all Md.stor = true) (hf : f ∉ ns) (hs : storL L) :
    ∃ p Ca dx vs, v = .ref p ∧ C.mg c = some (.ref Ca) ∧ H p = some (.ins Ca dx (ns.zip vs)) ∧ ns.length = vs.length ∧ Rep C F (L2.upd H p (.ins Ca dx (L2.putF f y (ns.zip vs)))) Γ σ ρ ((.ob .fr, .obj c (ns ++ [f]) (ds ++ [dy]), v) :: L) := by
  obtain ⟨f1, f2, nd, a, g1, g2, h1, h2, g3, g4, h3, h4, h5⟩ := r.own
  unfold At at h4
  rw [if_pos (show isObj (.obj c ns ds) = true from rfl)] at h4
  obtain ⟨p, vs, o, fc, e1, e2, e3, e4, e5, e6, e7⟩ := h4
  obtain ⟨Ca, dx, u1, u2, u3⟩ := e5
  subst u2
  subst e1
  subst e6
  subst h3
  subst h1
  obtain ⟨hg1, hda⟩ := h2
  subst hg1
  refine ⟨p, Ca, dx, vs, rfl, u1, e4, u3, ?_⟩
  rw [putF_new hf u3]
  generalize hN : (HO.ins Ca dx ((ns ++ [f]).zip (vs ++ [y])) : HO) = N
  have tN : tupO N = false := by rw [← hN]; rfl
  have np := List.nodup_append.mp nd
  rw [List.nil_append] at np
  have np3 := List.nodup_append.mp np.2.1
  have np4 := List.nodup_cons.mp np3.1
  have n1 : ∀ x ∈ f1, x ≠ p := fun x hx e => np.2.2 x hx p (List.mem_append_left _ List.mem_cons_self) e
  have n3 : ∀ x ∈ fc, x ≠ p := fun x hx e => np4.1 (e ▸ hx)
  have n4 : ∀ x ∈ g4, x ≠ p := fun x hx e => np3.2.2 p List.mem_cons_self x hx e.symm
  have o1 := a.owned
  have o4 := h5.owned
  have nm : ∀ x u, L2.upd H p N x = some u → tupO u = true → H x = some u := fun x u e t => by
    by_cases z : x = p
    · subst z; rw [upd_same] at e; cases e; rw [tN] at t; cases t
    · rw [upd_ne z] at e; exact e
  have lq : ∀ x u, x ≠ p → H x = some u → L2.upd H p N x = some u := fun x u z e => by rw [upd_ne z]; exact e
  have fit : Fit C F (L2.upd H p N) := ⟨r.fit.ff, fun x u e => lq x u (fun z => by rw [z, e2] at e; cases e) (r.fit.fh _ _ e), fun x u e => lq x u (fun z => by rw [z, e3] at e; cases e) (r.fit.bh _ _ e), r.fit.f0, fun x u e t => r.fit.tp x u (nm x u e t) t⟩
  have e8 : Alls (At C F (L2.upd H p N) .fr) ds vs fc := e7.imp fun d v f hf x => x
  refine ⟨fit, r.io, f1, (p :: (fc ++ [])) ++ g4, ?_, a.mono (Same.refl _) (fun x hx => (o1 x hx).1) (fun x hx => upd_ne (n1 x hx)) (.inl hΓ), p :: (fc ++ []), g4, rfl, ?_, h5.safe (Safe.of hs) (fun x hx => (o4 x hx).1) n4⟩
  · simpa using nd
  · unfold At
    rw [if_pos (show isObj (.obj c (ns ++ [f]) (ds ++ [dy])) = true from rfl)]
    refine ⟨p, vs ++ [y], N, fc ++ [], rfl, e2, e3, upd_same, ⟨Ca, dx, u1, hN.symm, ?_⟩, rfl, e8.append (Alls.one ⟨rfl, hda⟩)⟩
    rw [List.length_append, List.length_append, u3]
    rfl
def gSetF (i : Nat) (c f : Str) (g : GX) : GS := fun ρ => match g ρ with
  | .ok (y, ρ') => (match lk ρ' i with
    | .ok (.obj c' ns ds) => if c' = c ∧ (f ∉ ns ∧ ns.length < 1000) then .nx (ρ'.set i (some (.obj c' (ns ++ [f]) (ds ++ [y])))) else .stuck
    | _ => .stuck)
  | .ex c d => .ex c d
  | .stuck => .stuck
theorem ss_setF {i : Nat} {c f : Str} {Ca : Addr} {t : TE} {g : GX} (hi : Γ[i]? = some (.ob .fr)) (h : SX C W Γ t g .fr) (hm : C.mg c = some (.ref Ca)) (hc : Cls C.K Ca) (hn : NoAttr C.K Ca f) (hΓ : Γ.all Md.stor = true := by rfl) : SS C W mr Γb Γ (sFld C.K (tVar i) t f) (gSetF i c f g) Γ := by
  intro F H σ ρ L Dn hs r k
  show t σ H fun y H1 => ∃ x, σ[i]? = some (some x) ∧ ∃ a C' dx fs, x = .ref a ∧ H1 a = some (.ins C' dx fs) ∧ Cls C.K C' ∧ NoAttr C.K C' f ∧ fs.length < 1000 ∧ Dn.nx σ (L2.upd H1 a (.ins C' dx (L2.putF f y fs)))
  refine h F H σ ρ L _ hs r ?_
  unfold gSetF at k
  revert k
  cases g ρ with
  | ex c d => exact fun k => k
  | stuck => exact fun k => k
  | ok p =>
    obtain ⟨dy, ρ'⟩ := p
    intro k F1 H1 y s1 r1
    replace k : PS' C W mr Γb Γ F H L Dn (match lk ρ' i with | .ok (.obj c' ns ds) => if c' = c ∧ (f ∉ ns ∧ ns.length < 1000) then .nx (ρ'.set i (some (.obj c' (ns ++ [f]) (ds ++ [dy])))) else .stuck | _ => .stuck) := k
    rcases lk_cases ρ' i with ⟨d, g2, g3⟩ | g3
    · rw [g3] at k
      cases d with
      | obj c' ns ds =>
        replace k : PS' C W mr Γb Γ F H L Dn (if c' = c ∧ (f ∉ ns ∧ ns.length < 1000) then .nx (ρ'.set i (some (.obj c' (ns ++ [f]) (ds ++ [dy])))) else .stuck) := k
        split at k
        · rename_i hz
          obtain ⟨hz1, hz2, hz3⟩ := hz
          subst hz1
          obtain ⟨v, h2, r2⟩ := r1.take hi g2
          obtain ⟨p, Cb, dx, vs, z1, z2, z3, z4, r3⟩ := r2.swap.putF hΓ hz2 hs
          rw [hm] at z2
          cases z2
          refine ⟨v, h2, p, Ca, dx, _, z1, z3, hc, hn, ?_, ?_⟩
          · rw [List.length_zip, z4, Nat.min_self, ← z4]; exact hz3
          · have r4 := r3.back h2 (.inl hi)
            rw [set_set', set_id hi] at r4
            exact k F1 _ σ s1 r4
        · exact k.elim
      | _ => exact k.elim
    · rw [g3] at k
      exact k.elim
/-! ### __init__ -/
def hole (x : Addr) (H : Hp) : Hp := fun a => if a = x then none else H a
theorem hole_same {x : Addr} : Same (hole x H) H := fun a o e => by
  unfold hole at e
  split at e
  · cases e
  · exact e
abbrev CN (K : PySem.W.Frag) (mg : Str → Option Value) (x : Addr) (H F : Hp) : Cxt := ⟨K, mg, hole x H, F, [(0, .ref x, .ob .fr)]⟩
def PN (C : Cxt) (XW : Wx) (F : Hp) (x : Addr) (Q : VK) : Rs DV → Prop
  | .ok d => ∀ F' H', Same F F' → Fit C F' H' → DA C.K C.mg F' d (.ref x) → Q .non H'
  | .ex c d => ∀ F' H', Same F F' → Fit C F' H' → XW c d H'
  | .stuck => False
/-- an __init__'s promise by its mirror -/
def spN (K : PySem.W.Frag) (mg : Str → Option Value) (XW : XK → Wx) (c : Str) (pm : List Md) (f : List DV → Rs DV) : Sp := fun vs H Q E =>
  ∃ x Ca dx ws F ds, vs = .ref x :: ws ∧ mg c = some (.ref Ca) ∧ H x = some (.ins Ca dx []) ∧ F x = none ∧ Fit (CN K mg x H F) F H ∧ ArgsAt (CN K mg x H F) F H pm ds ws ∧ PN (CN K mg x H F) (XW E) F x Q (f ds)
def startN (c : Str) (n : Nat) (ds : List DV) : EnvD := some (.obj c [] []) :: startD n ds
def finN : Out → Rs DV
  | .nx (some d :: _) => if isObj d = true then .ok d else .stuck
  | .ex c d => .ex c d
  | _ => .stuck
/-- an __init__'s mirror by its body's, over n + 1 slots -/
def runN (c : Str) (g : GS) (n : Nat) (ds : List DV) : Rs DV := finN (g (startN c n ds))
theorem fnN {P : Program} {w : World} {CX : CXT} {XW : XK → Wx} {K : PySem.W.Frag} {mg : Str → Option Value} {base : Heap} {k : Nat} {x qual c : Str} {st : Stmt} {f : Addr} {fd : FuncData} {N ps : List Str} {pm Γl : List Md} {g : GS}
    (Fn : FunD K x qual (defArgs st) (defBody st) (defScope st) [] [] f fd) (S : FnScope N ps (defScope st)) (hp : pm.length + 1 = ps.length) (hN : pm.length + Γl.length + 1 = N.length)
    (hb : ∀ (cdv : Value) (A : Around) (outer : List PySem.Env) (s : Shared) (H : Hp) (E : XK), Room k (A.deeper (envOfC qual (defScope st) s.heap.objs.size f cdv)) →
      ∃ t, PSs (cxOf CX P w K mg base N qual (defScope st) f cdv A outer s H E) (defBody st) t ∧ ∀ (Bp F0 : Hp) (a : Addr), ∃ Γ', SS ⟨K, mg, Bp, F0, [(0, .ref a, .ob .fr)]⟩ (XW E) .fr [] (.ob .fr :: (pm ++ Γl)) t g Γ') :
    FnOk P w K mg base CX (k + 1) f fd ps (spN K mg XW c pm (runN c g (pm.length + Γl.length))) := by
  refine Fn.ok S (fun vs H Q E h => ?_) fun cdv A outer s H vs Q E hr h => ?_
  · obtain ⟨x, Ca, dx, ws, F, ds, e1, _, _, _, _, h2, _⟩ := h
    rw [e1, List.length_cons, h2.len.2, hp]
  · obtain ⟨x, Ca, dx, ws, F, ds, e1, hm, hx, hF, h1, h2, h3⟩ := h
    subst e1
    obtain ⟨t, ht, hs⟩ := hb cdv A outer s H E hr
    obtain ⟨l1, l2⟩ := h2.len
    obtain ⟨Γ', hs⟩ := hs (hole x H) F x
    refine ⟨t, ht, hs F H (start N (.ref x :: ws)) (startN c (pm.length + Γl.length) ds) [] _ rfl ?_ ?_⟩
    · have hst : start N (.ref x :: ws) = some (.ref x) :: (ws.map some ++ List.replicate Γl.length none) := by
        unfold L2.start
        rw [List.length_cons, l2, show N.length - (pm.length + 1) = Γl.length by omega]
        rfl
      refine ⟨h1, fun p hp => ?_, [x], [], (List.nodup_cons.mpr ⟨by simp, List.nodup_nil⟩), ?_, rfl⟩
      · rw [List.mem_singleton.mp hp, hst]
        exact ⟨rfl, rfl⟩
      · rw [hst]
        unfold startN startD
        rw [l1, show pm.length + Γl.length - pm.length = Γl.length by omega]
        refine ⟨[x], [], rfl, ⟨.ref x, rfl, ?_⟩, slots_start Γl h2⟩
        unfold At
        rw [if_pos (show isObj (.obj c [] []) = true from rfl)]
        exact ⟨x, [], _, [], rfl, hF, if_pos rfl, hx, ⟨Ca, dx, hm, rfl, rfl⟩, rfl, rfl, rfl⟩
    · unfold runN at h3
      revert h3
      cases g (startN c (pm.length + Γl.length) ds) with
      | nx ρ' =>
        intro h3 F1 H1 σ1 s1 r1
        cases ρ' with
        | nil => exact h3.elim
        | cons o ρ' =>
          cases o with
          | none => exact h3.elim
          | some d =>
            have h3 : PN (CN K mg x H F) (XW E) F x _ (if isObj d = true then .ok d else .stuck) := h3
            split at h3
            · rename_i hz
              have hio := r1.io (0, .ref x, .ob .fr) List.mem_cons_self
              obtain ⟨v, e1, r2⟩ := r1.take (i := 0) hio.2 rfl
              rw [hio.1] at e1
              cases e1
              obtain ⟨F2, s2, r3⟩ := r2.freeze rfl
              exact h3 F2 H1 (s1.trans s2) r3.fit r3.fr
            · exact h3.elim
      | rt d ρ' => exact fun h => h.elim
      | bk ρ' => exact fun h => h.elim
      | ct ρ' => exact fun h => h.elim
      | ex c d => exact fun h3 F1 H1 s1 f1 => h3 F1 H1 s1 f1
      | stuck => exact fun h => h
/-! ### C(..) -/
theorem ArgsAt.to {C C' : Cxt} {F H H' : Hp} (hK : C'.K = C.K) (hm : C'.mg = C.mg) (hB : Same C.Bp C'.Bp) : ∀ {ms pm : List Md} {ds : List DV} {vs : List V}, fitsL ms pm = true → ArgsAt C F H pm ds vs → ArgsAt C' F H' pm ds vs
  | [], [], [], [], _, _ => trivial
  | m :: ms, p :: pm, d :: ds, v :: vs, q, ⟨h1, h2⟩ => by
    obtain ⟨q1, q2⟩ := (Bool.and_eq_true _ _).mp (show (Md.fits m p && fitsL ms pm) = true from q)
    refine ⟨?_, ArgsAt.to hK hm hB q2 h2⟩
    cases p with
    | bo => exact ⟨rfl, by rw [hK, hm]; exact DA.mono hB _ _ h1.2⟩
    | fr => exact ⟨rfl, by rw [hK, hm]; exact h1.2⟩
    | sc => obtain ⟨_, a, ns, e1, e2, e3⟩ := h1; exact ⟨rfl, a, ns, e1, e2, by rw [hK]; exact e3⟩
    | pk m => cases m <;> cases q1
    | own m => cases m <;> cases q1
    | tu m => cases m <;> cases q1
    | ob m => cases m <;> cases q1
    | po m => cases m <;> cases q1
  | [], _ :: _, _, _, q, _ => by cases q
  | _ :: _, [], _, _, q, _ => by cases q
  | [], [], _ :: _, _, _, h => by cases ‹List V› <;> exact h.elim
  | [], [], [], _ :: _, _, h => h.elim
  | _ :: _, _ :: _, [], _, _, h => by cases ‹List V› <;> exact h.elim
  | _ :: _, _ :: _, _ :: _, [], _, h => h.elim
theorem se_make {XW : XK → Wx} {E : XK} {c : Str} {Ca : Addr} {pm ms : List Md} {f : List DV → Rs DV} {t : TA} {g : GA} (h : SA C W Γ t g ms) (hm : C.mg c = some (.ref Ca)) (hx : ∀ c d H', W c d H' → XW E c d H') (hf : fitsL ms pm = true := by rfl) :
    SE C W Γ (tMake Ca (spN C.K C.mg XW c pm f) [] E t) (gCB f g) .fr := by
  intro F H σ ρ L Q hL r k
  show t σ H fun vs H1 => ∀ x dx, H1 x = none → H1 dx = none → dx ≠ x → spN C.K C.mg XW c pm f (.ref x :: (vs ++ [])) (upd (upd H1 dx (.own x)) x (.ins Ca dx [])) (fun v H2 => v = .non ∧ Q (.ref x) H2) E
  refine sa_then h hL r k fun ds F1 H1 vs s1 s2 e1 e2 r1 k1 x dx nx nd ne => ?_
  rw [List.append_nil]
  obtain ⟨a1, r2⟩ := r1.args hf e1 e2
  generalize hN : upd (upd H1 dx (.own x)) x (.ins Ca dx []) = N
  have N1 : Same H1 N := fun a o e => by
    rw [← hN, upd_ne (ne_of_none e nx), upd_ne (ne_of_none e nd)]
    exact e
  have N2 : Same H1 (hole x N) := fun a o e => by
    unfold hole
    rw [if_neg (ne_of_none e nx)]
    exact N1 _ _ e
  have N3 : ∀ a o, N a = some o → tupO o = true → H1 a = some o := fun a o e q => by
    rw [← hN] at e
    by_cases z : a = x
    · subst z; rw [upd_same] at e; cases e; cases q
    · rw [upd_ne z] at e
      by_cases z2 : a = dx
      · subst z2; rw [upd_same] at e; cases e; cases q
      · rw [upd_ne z2] at e; exact e
  have N4 : N x = some (.ins Ca dx []) := by rw [← hN, upd_same]
  have fx : F1 x = none := Same.free r2.fit.fh nx
  have ft : Fit (CN C.K C.mg x N F1) F1 N := ⟨Same.refl _, r2.fit.fh.trans N1, hole_same, fun a h => .inl h, fun a o e q => r2.fit.tp a o (N3 a o e q) q⟩
  refine ⟨x, Ca, dx, vs, F1, ds, rfl, hm, N4, fx, ft, ArgsAt.to (C := C0 C.K C.mg H1 F1) (C' := CN C.K C.mg x N F1) rfl rfl N2 hf a1, ?_⟩
  have cf : ∀ {F2 H2 : Hp}, Fit (CN C.K C.mg x N F1) F2 H2 → Fit (C0 C.K C.mg H1 F1) F2 H2 := fun {F2 H2} f2 => ⟨f2.ff, f2.fh, N2.trans f2.bh, fun a ha => by
    rcases f2.f0 a ha with z | z | ⟨o, z1, z2⟩
    · exact .inl z
    · exact .inr (.inl (Same.free N2 z))
    · exact .inr (.inr ⟨o, N3 a o (hole_same _ _ z1) z2, z2⟩), f2.tp⟩
  revert k1
  cases f ds with
  | ok d => exact fun k1 F2 H2 s3 f2 h2 => ⟨rfl, k1 F2 H2 (.ref x) s3 (cf f2).bh (r2.call (m := .fr) rfl (cf f2) ⟨rfl, h2⟩ List.nodup_nil)⟩
  | ex c d => exact fun k1 F2 H2 s3 f2 => hx c d H2 (k1 F2 H2 s3 (cf f2).bh (r2.fit.lift (cf f2)))
  | stuck => exact fun k1 => k1
/-! ### o.m(..) -/
def gMeth (c m : Str) (f : List DV → Rs DV) (g : GE) (ga : GA) : GE := fun ρ => (g ρ).bind fun x => match x with
  | .obj c' ns ds => if c' = c ∧ m ∉ ns then (ga ρ).bind fun es => f (.obj c' ns ds :: es) else .stuck
  | _ => .stuck
theorem lookup_none {f : Str} : ∀ {ns : List Str} {vs : List V}, f ∉ ns → (ns.zip vs).lookup f = none
  | [], _, _ => rfl
  | _ :: _, [], _ => rfl
  | n :: ns, v :: vs, h => by
    have h1 : (f == n) = false := by
      cases z : f == n with
      | false => rfl
      | true => exact absurd (beq_iff_eq.mp z) fun e => h (e ▸ List.mem_cons_self)
    rw [List.zip_cons_cons, List.lookup_cons, h1]
    exact lookup_none fun z => h (List.mem_cons_of_mem _ z)
theorem se_meth {XW : XK → Wx} {E : XK} {c mn : Str} {Ca : Addr} {p : Md} {pm ms : List Md} {f : List DV → Rs DV} {te : TE} {g : GE} {t : TA} {ga : GA} (he : SE C W Γ te g m) (h : SA C W Γ t ga ms) (hm : C.mg c = some (.ref Ca)) (hx : ∀ c d H', W c d H' → XW E c d H')
    (qf : m.fld = true := by rfl) (hp : Md.fits m p = true := by rfl) (hf : fitsL ms pm = true := by rfl) (q : mr.fz = true := by rfl) : SE C W Γ (tMeth Ca mn (spD C.K C.mg XW (p :: pm) mr f) [] E te t) (gMeth c mn f g ga) mr := by
  intro F H σ ρ L Q hL r k
  show te σ H fun x H1 => ∃ a dx fs, x = .ref a ∧ H1 a = some (.ins Ca dx fs) ∧ fs.lookup mn = none ∧ t σ H1 fun vs H2 => spD C.K C.mg XW (p :: pm) mr f (x :: (vs ++ [])) H2 Q E
  refine se_then he hL r k fun d F1 H1 x s1 s2 r1 k1 => ?_
  cases d with
  | obj c' ns dd =>
    replace k1 : PE' C W Γ F1 H1 σ ρ L mr Q (if c' = c ∧ mn ∉ ns then (ga ρ).bind fun es => f (.obj c' ns dd :: es) else .stuck) := k1
    split at k1
    · rename_i hz
      obtain ⟨hz1, hz2⟩ := hz
      subst hz1
      obtain ⟨a, Cb, dx, vs, u1, u2, u3, u4, u5⟩ := r1.flds qf
      rw [hm] at u2
      cases u2
      refine ⟨a, dx, _, u1, u3, lookup_none hz2, ?_⟩
      have hok : (m.stor || m.free) = true := by
        match m, qf with
        | .fr, _ => rfl
        | .bo, _ => rfl
        | .po .fr, _ => rfl
      refine sa_then h (okL_cons hok hL) r1 k1 fun ds F2 H2 ws s3 s4 e1 e2 r2 k2 => ?_
      rw [List.append_nil]
      obtain ⟨a1, r3⟩ := r2.args hf e1 e2
      have a0 : ArgsAt (C0 C.K C.mg H2 F2) F2 H2 [p] [.obj c' ns dd] [x] := (Rep.args (ms := [m]) (pm := [p]) (ds := [.obj c' ns dd]) (vs := [x]) r3 (by show (Md.fits m p && true) = true; rw [hp]; rfl) rfl rfl).1
      refine ⟨F2, .obj c' ns dd :: ds, ⟨Same.refl _, r3.fit.fh, Same.refl _, fun a h => .inl h, r3.fit.tp⟩, ⟨a0.1, a1⟩, ?_⟩
      revert k2
      cases f (.obj c' ns dd :: ds) with
      | ok d => exact fun k2 F3 H3 v fp s5 f3 h3 nd => k2 F3 H3 v s5 f3.bh (r3.tail.call q f3 h3 nd)
      | ex c d => exact fun k2 F3 H3 s5 f3 => hx c d H3 (k2 F3 H3 s5 f3.bh (r3.tail.fit.lift f3))
      | stuck => exact fun k2 => k2
    · exact k1.elim
  | _ => exact k1.elim
end
end DL
end

/-! text DO1 -/
section
set_option maxRecDepth 100000
set_option maxHeartbeats 4000000
/-! zip of two lists; is False -/
namespace DL
open PySem PySem.Spec PyProof.Rows L2
section
variable {C : Cxt} {W : Wx} {F F' H H' : Hp} {Γ : List Md} {σ : L2.St} {ρ : EnvD} {L : List Ent} {m ma mb mr : Md} {d : DV} {v : V} {st : Bool}
def zipD (xs ys : List DV) : List DV := (xs.zip ys).map fun p => .tup [p.1, p.2]
def dZip : List DV → Rs (List DV)
  | [.lst xs, .lst ys] => .ok (zipD xs ys)
  | _ => .stuck
def gZip (g : GA) : GI := fun ρ => (g ρ).bind dZip
theorem zipD_len {xs ys : List DV} : (zipD xs ys).length = min xs.length ys.length := by
  unfold zipD
  rw [List.length_map, List.length_zip]
theorem zipD_get {xs ys : List DV} {i : Nat} {d : DV} (h : (zipD xs ys)[i]? = some d) : ∃ x y, xs[i]? = some x ∧ ys[i]? = some y ∧ d = .tup [x, y] := by
  unfold zipD at h
  rw [List.getElem?_map] at h
  cases e : (xs.zip ys)[i]? with
  | none => rw [e] at h; cases h
  | some p =>
    rw [e] at h
    cases h
    obtain ⟨h1, h2⟩ := List.getElem?_zip_eq_some.mp e
    exact ⟨p.1, p.2, h1, h2, rfl⟩
theorem si_zip {t : TA} {g : GA} (h : SA C W Γ t g [ma, mb]) (qa : ma.ixok = true := by rfl) (qb : mb.ixok = true := by rfl) (ka : ma.kid = .fr := by rfl) (kb : mb.kid = .fr := by rfl) (sa : ma.stor = true := by rfl) (sb : mb.stor = true := by rfl) : SI C W Γ (iZip C.K t) (gZip g) .fr st := by
  intro F H σ ρ L R hL r k
  show t σ H fun vs H1 => ∃ a b xs ys, vs = [.ref a, .ref b] ∧ SqL C.K H1 a xs ∧ SqL C.K H1 b ys ∧ R (Itz C.K a b) H1
  refine h F H σ ρ L _ hL r ?_
  unfold gZip at k
  revert k
  cases g ρ with
  | ex c d => exact fun k => k
  | stuck => exact fun k => k
  | ok ds =>
    intro k F1 H1 vs s1 s2 e1 e2 r1
    match vs, ds, e1, e2, r1, k with
    | [x, y], [dx, dy], _, _, r1, k =>
      have r1 : Rep C F1 H1 Γ σ ρ ((mb, dy, y) :: (ma, dx, x) :: L) := r1
      cases dx with
      | lst xs =>
        cases dy with
        | lst ys =>
          have k : PI' C W Γ F H σ ρ L .fr st R (.ok (zipD xs ys)) := k
          obtain ⟨a, vs, h1, h2, h3⟩ := r1.tail.items qa
          obtain ⟨b, ws, g1, g2, g3⟩ := r1.items qb
          refine ⟨a, b, vs, ws, by rw [h1, g1], h2.1, g2.1, ?_⟩
          refine k F1 H1 (Itz C.K a b) [(mb, .lst ys, y), (ma, .lst xs, x)] s1 s2 (fun _ => storL_cons sb (storL_cons sa rfl)) (fun e he => ?_) r1 ?_
          · rcases List.mem_cons.mp he with z | z
            · subst z; exact ⟨ixok_free qb, r1.free (ixok_free qb)⟩
            · obtain rfl := List.mem_singleton.mp z
              exact ⟨ixok_free qa, r1.tail.free (ixok_free qa)⟩
          · intro i F2 H2 Γ2 σ2 ρ2 L2 r2
            have r2 : Rep C F2 H2 Γ2 σ2 ρ2 ((mb, .lst ys, y) :: (ma, .lst xs, x) :: L2) := r2
            obtain ⟨a2, vs2, i1, i2, i3⟩ := r2.tail.items qa
            obtain ⟨b2, ws2, j1, j2, j3⟩ := r2.items qb
            have ea : a2 = a := by rw [h1] at i1; cases i1; rfl
            have eb : b2 = b := by rw [g1] at j1; cases j1; rfl
            subst ea
            subst eb
            refine ⟨fun hl => ⟨vs2, ws2, i2.1, j2.1, ?_⟩, fun d hd => ?_⟩
            · rw [zipD_len] at hl
              rw [← i3.length, ← j3.length]
              omega
            · obtain ⟨dx, dy, e1, e2, rfl⟩ := zipD_get hd
              obtain ⟨w1, u1, u2⟩ := i3.nil_get e1
              obtain ⟨w2, u3, u4⟩ := j3.nil_get e2
              refine ⟨⟨vs2, ws2, w1, w2, i2.1, j2.1, u1, u3⟩, fun z H' hy => ?_⟩
              obtain ⟨T, p, q, rfl, hT, rfl, y1, y2⟩ := hy
              have ep : p = w1 := Option.some.inj ((y1 vs2 i2.1).symm.trans u1)
              have eq : q = w2 := Option.some.inj ((y2 ws2 j2.1).symm.trans u3)
              subst ep
              subst eq
              rw [ka] at u2
              rw [kb] at u4
              have r3 : Rep C F2 H2 Γ2 σ2 ρ2 (entsA [.fr, .fr] [dx, dy] [p, q] ((mb, .lst ys, y) :: (ma, .lst xs, x) :: L2)) := (r2.cons0 u2).cons0 u4
              obtain ⟨sf, r4⟩ := r3.tuple (m := .fr) (by decide) rfl rfl hT
              obtain ⟨F3, s3, r5⟩ := r4.freeze rfl
              exact ⟨F3, sf.trans s3, same_upd hT, r5⟩
        | _ => exact k.elim
      | _ => cases dy <;> exact k.elim
/-! ### x is False -/
def dIsB : OpD := fun x y => match x, y with
  | .bl a, .bl b => .ok (.bl (decide (a = b)))
  | _, _ => .stuck
def dNotB : OpD := fun x y => match x, y with
  | .bl a, .bl b => .ok (.bl (!decide (a = b)))
  | _, _ => .stuck
abbrev rIsB : R2 := fun x y H Q => ∃ a b, x = .bl a ∧ y = .bl b ∧ Q (.bl (decide (a = b))) H
abbrev rNotB : R2 := fun x y H Q => ∃ a b, x = .bl a ∧ y = .bl b ∧ Q (.bl (!decide (a = b))) H
theorem op_isB {X : Cx} : OpR X (compareOp .Is) rIsB := by
  intro pins s σ H x y v u Q I rx ry h
  obtain ⟨a, b, rfl, rfl, q⟩ := h
  cases rx
  cases ry
  refine PyProof.Rows.is_bool (fin_bl I q ?_)
  cases a <;> cases b <;> rfl
theorem op_notB {X : Cx} : OpR X (compareOp .IsNot) rNotB := by
  intro pins s σ H x y v u Q I rx ry h
  obtain ⟨a, b, rfl, rfl, q⟩ := h
  cases rx
  cases ry
  refine PyProof.Rows.isnot_bool (fin_bl I q ?_)
  cases a <;> cases b <;> rfl
theorem os_isB (ra : ma.rd = true := by rfl) (rb : mb.rd = true := by rfl) : OpS C W rIsB dIsB ma mb .fr := by
  intro Γ F H σ ρ L x y dx dy Q r k
  obtain ⟨h1, h2⟩ := r.da2 ra rb
  cases dx with
  | bl a =>
    cases dy with
    | bl b => exact ⟨a, b, h1, h2, k.flat r.tail.tail rfl rfl⟩
    | _ => exact k.elim
  | _ => cases dy <;> exact k.elim
theorem os_notB (ra : ma.rd = true := by rfl) (rb : mb.rd = true := by rfl) : OpS C W rNotB dNotB ma mb .fr := by
  intro Γ F H σ ρ L x y dx dy Q r k
  obtain ⟨h1, h2⟩ := r.da2 ra rb
  cases dx with
  | bl a =>
    cases dy with
    | bl b => exact ⟨a, b, h1, h2, k.flat r.tail.tail rfl rfl⟩
    | _ => exact k.elim
  | _ => cases dy <;> exact k.elim
theorem nioL1 {is : List Nat} {v : V} {m : Md} (h : ∀ i ∈ is, (0 : Nat) ≠ i) : ∀ p ∈ [((0 : Nat), v, m)], ∀ i ∈ is, p.1 ≠ i := fun p hp i hi => by
  rw [List.mem_singleton.mp hp]
  exact h i hi
theorem nio21 {k i j : Nat} {v : V} {m : Md} (h1 : k ≠ i) (h2 : k ≠ j) : ∀ p ∈ [(k, v, m)], p.1 ≠ i ∧ p.1 ≠ j := fun p hp => by
  rw [List.mem_singleton.mp hp]
  exact ⟨h1, h2⟩
/-- an __init__ that lets nothing out -/
theorem fnN0 {P : Program} {w : World} {K : PySem.W.Frag} {mg : Str → Option Value} {base : Heap} {k : Nat} {x qual c : Str} {st : Stmt} {f : Addr} {fd : FuncData} {N ps : List Str} {pm Γl : List Md} {g : GS}
    (Fn : FunD K x qual (defArgs st) (defBody st) (defScope st) [] [] f fd) (S : FnScope N ps (defScope st)) (hp : pm.length + 1 = ps.length) (hN : pm.length + Γl.length + 1 = N.length)
    (hb : ∀ (cdv : Value) (A : Around) (outer : List PySem.Env) (s : Shared) (H : Hp) (E : XK), Room k (A.deeper (envOfC qual (defScope st) s.heap.objs.size f cdv)) →
      ∃ t, PSs (cxOf CX0 P w K mg base N qual (defScope st) f cdv A outer s H E).nox (defBody st) t ∧ ∀ (Bp F0 : Hp) (a : Addr), ∃ Γ', SS ⟨K, mg, Bp, F0, [(0, .ref a, .ob .fr)]⟩ W0 .fr [] (.ob .fr :: (pm ++ Γl)) t g Γ') :
    FnOk P w K mg base CX0 (k + 1) f fd ps (spN K mg X0 c pm (runN c g (pm.length + Γl.length))) := fnN Fn S hp hN fun cdv A outer s H E hr => by
  obtain ⟨t, ht, hs⟩ := hb cdv A outer s H E hr
  exact ⟨t, ht.nox, hs⟩
end
end DL
end

/-! text DG0 -/
section
set_option maxRecDepth 100000
set_option maxHeartbeats 4000000
/-! the law's own def, called by the caller itself: nothing is being shown there, so repr tells the text -/
namespace DL
open PySem PySem.Spec PyProof.Rows L2
/-- a def's promise to the caller alone -/
def FnTop (P : Program) (w : World) (K : PySem.W.Frag) (mg : Str → Option Value) (base : Heap) (CX : CXT) (f : Addr) (fd : FuncData) (ps : List Str) (sp : Sp) : Prop :=
  ∀ (s : Shared) (H : Hp) (args : Args) (us : List Value) (vs : List V) (Q : VK) (E : XK), Env0 P w K mg base callerA [] s H → BindsTo s fd args (ps.zip us) → Vals vs us → vs.length = ps.length → sp vs H Q E → codeAny (model P w) callerA (.call (.ref f) args) (CR CX [] P w H s Q E) s
theorem fn_top {CX : CXT} {P : Program} {w : World} {K : PySem.W.Frag} {mg : Str → Option Value} {base : Heap} {k : Nat} {x qual : Str} {params : Arguments} {body : List Stmt} {scope : Scope} {f : Addr} {fd : FuncData} {N ps : List Str} {sp : Sp}
    (Fn : FunD K x qual params body scope [] [] f fd) (S : FnScope N ps scope) (hr : Room (k + 1) callerA)
    (bd : ∀ (cdv : Value) (s : Shared) (H : Hp) (vs : List V) (Q : VK) (E : XK), Room k (callerA.deeper (envOfC qual scope s.heap.objs.size f cdv)) → sp vs H Q E →
      ∃ t, PSs (cxOf CX P w K mg base N qual scope f cdv callerA [] s H E) body t ∧ t { nx := fun _ H' => Q .non H', rt := Q } (start N vs) H) : FnTop P w K mg base CX f fd ps sp := by
  obtain ⟨oc, od, dV, kV, doc, pm, an, cdv, ct, osl, rfl, lk, hcd, _, _⟩ := Fn.ex
  intro s H args us vs Q E e0 bnd rv ln hsp
  have inn : K.In s.heap := e0.mod.kin.keeps fun b o q => (e0.bs b o q).1
  have nolim : s.heap.NoLimit := e0.mod.nolimit.keeps fun b o q => (e0.bs b o q).1
  have kd : ∀ y ∈ ps.zip us, scope.names.lookup y.1 = some .local ∨ (scope.names.lookup y.1 = some .cell ∧ ((cellsFrom (s.heap.objs.size + 1) scope.names []).lookup y.1).isSome = true) := fun y my => by
    obtain ⟨n, v⟩ := y
    exact (S.par n (List.of_mem_zip my).1).elim .inl fun z => .inr ⟨z, PySem.W.cellsFrom_some _ _ _ (.inl z)⟩
  refine codeAny_call_function hr.depth (inn _ _ lk) rfl S.co S.gen rfl (PySem.W.codeRec_of inn hcd) (bnd _ _ _ _ (wpAny_newFunctionEnv_cells S.kind kd fun env he s1 xc => ?_))
  cases he
  refine ⟨nolim.keeps xc.toInCall.keep, codeAny_func ?_⟩
  obtain ⟨t, ht, hq⟩ := bd cdv s H vs Q E (hr.deeper _) hsp
  have I0 : Inv (cxOf CX P w K mg base N qual scope f cdv callerA [] s H E) [] (start N vs) H s1 := inv_start S hr.hd e0 ln rv xc
  refine wpAny_mono (ht.run [] s1 (start N vs) H _ I0 hq) (fun fl s2 z => ?_) fun _ _ z => z
  cases fl with
  | ret u => obtain ⟨v, σ', H', J, r, q⟩ := z; exact ⟨v, H', J.os, J.bare, J.base, J.hok, r, q⟩
  | next => obtain ⟨σ', H', J, q⟩ := z; exact ⟨.non, H', J.os, J.bare, J.base, J.hok, (rfl : RelV V.non Value.none), q⟩
  | brk => obtain ⟨_, _, _, q⟩ := z; exact q.elim
  | cont => obtain ⟨_, _, _, q⟩ := z; exact q.elim
/-- the call of the law, from a heap of which only the script may be tracked -/
theorem top_from {P : Program} {w : World} {K : PySem.W.Frag} {mg mb : Str → Option Value} {CX : CXT} {fa a : Addr} {fd : FuncData} {x : Str} {sp : Sp} {s : Shared} {vs : List Value} {H : Hp}
    (kin : K.In s.heap) (nsg : s.heap.Ns mainGlobals mg) (nsb : s.heap.Ns builtinsNs mb) (boot : ∀ x : Str, x ≠ "__name__" → mb x = bootBuiltins x) (nl : s.heap.NoLimit) (gs : s.gens = #[])
    (sc : s.heap.get? a = some { cls := .type "list", data := .seq vs.toArray })
    (Fn : ∀ base : Heap, K.In base → base.Ns mainGlobals mg → FnTop P w K mg base CX fa fd [x] sp) (bnd : ∀ (s : Shared) (u : Value), BindsTo s fd ⟨[u], []⟩ [(x, u)])
    (pr : sp [.ref a] H (fun v _ => v = .bl true) fun _ _ _ => False) (no : ∀ H e s', CX [] H s (fun _ _ _ => False) e s' → False)
    (only : Only H) (hok : HOk P w H s.heap) (one : ∀ b, H b ≠ none → b = a) (apart : H a ≠ none → K.lookup a = none) :
    codeAny (model P w) callerA (.call (.ref fa) ⟨[.ref a], []⟩) (fun r s' => r = .ok (.ret (.bool true)) ∧ OldK s.heap s'.heap ∧ s'.os = s.os ∧ AllBare s'.gens) s := by
  have hid : ∀ {b : Addr} {o : Obj}, s.heap.get? b = some o → H b = none → (hidT s.heap H).get? b = some o := fun g n => hidT_get g n
  have dic : ∀ {b : Addr} {o : Obj} {es : Array DictEntry} {ep : Nat}, s.heap.get? b = some o → o.data = .dict es ep → H b = none := fun {b o es ep} g dt => by
    refine Classical.byContradiction fun z => ?_
    rw [one b z] at g
    cases sc.symm.trans g
    exact absurd dt fun z => by cases z
  have spc : ∀ {b : Addr} {m : Str → Option Value}, s.heap.Ns b m → (hidT s.heap H).Ns b m := fun {b m} ⟨o, es, ep, g, dt, r⟩ => ⟨o, es, ep, hid g (dic g dt), dt, r⟩
  have kin2 : K.In (hidT s.heap H) := fun b o g => hid (kin b o g) (Classical.byContradiction fun z => by
    have eb := one b z
    rw [eb] at z g
    rw [apart z] at g
    cases g)
  have md : Mod K mg (hidT s.heap H) := by
    obtain ⟨mc, l1, l2⟩ := nl
    exact ⟨kin2, spc nsg, ⟨mb, spc nsb, boot⟩, ⟨mc, spc l1, l2⟩⟩
  have env : Env0 P w K mg (hidT s.heap H) callerA [] s H := ⟨rfl, md, fun b o g => of_hidT g, Nat.le_of_eq (hidT_size _ _), trivial, fun b z => absurd (show b ∈ ([] : List Addr) from z) (by simp), hok, .of_eq gs⟩
  refine codeAny_mono (Fn _ kin2 (spc nsg) s H ⟨[.ref a], []⟩ [.ref a] [.ref a] _ _ env (bnd s (.ref a)) (.cons rfl .nil) rfl pr) fun r s2 z => ?_
  match r, z with
  | .error e, z => exact (no H e s2 z).elim
  | .ok (.ret u), ⟨v, H2, os, bare, un, hok2, rv, (q : v = .bl true)⟩ =>
    subst q
    have eu : u = Value.bool true := rv
    subst eu
    refine ⟨rfl, OldK.of_keep fun b o g => ?_, os, bare⟩
    cases hb : H b with
    | none => exact un.keep b o g hb (fun z => absurd (show b ∈ ([] : List Addr) from z) (by simp)) (by simp)
    | some u =>
      rcases only b with z | ⟨ob, xs, z⟩
      · rw [hb] at z; cases z
      · have g1 := (hok b _ z).1
        have g2 := (hok2 b _ (un.frzs b ob _ z)).1
        cases g.symm.trans g1
        exact g2
/-- the script's heap -/
def scH (a : Addr) (vs : List Value) (ns : List Int) : Hp := fun b => if b = a then some (.frz { cls := .type "list", data := .seq vs.toArray } (.lst (ns.map V.int))) else none
theorem top_call {P : Program} {w : World} {K : PySem.W.Frag} {mg mb : Str → Option Value} {CX : CXT} {fa a : Addr} {fd : FuncData} {x : Str} {sp : Sp} {s : Shared} {vs : List Value} {ns : List Int}
    (kin : K.In s.heap) (nsg : s.heap.Ns mainGlobals mg) (nsb : s.heap.Ns builtinsNs mb) (boot : ∀ x : Str, x ≠ "__name__" → mb x = bootBuiltins x) (nl : s.heap.NoLimit) (gs : s.gens = #[])
    (sc : s.heap.get? a = some { cls := .type "list", data := .seq vs.toArray }) (itz : IntsAre vs ns) (ln : ns.length ≤ sizeLine)
    (Fn : ∀ base : Heap, K.In base → base.Ns mainGlobals mg → FnTop P w K mg base CX fa fd [x] sp) (bnd : ∀ (s : Shared) (u : Value), BindsTo s fd ⟨[u], []⟩ [(x, u)])
    (pr : ∀ H : Hp, Only H → SqL K H a (ns.map V.int) → sp [.ref a] H (fun v _ => v = .bl true) fun _ _ _ => False) (no : ∀ H e s', CX [] H s (fun _ _ _ => False) e s' → False) :
    codeAny (model P w) callerA (.call (.ref fa) ⟨[.ref a], []⟩) (fun r s' => r = .ok (.ret (.bool true)) ∧ OldK s.heap s'.heap ∧ s'.os = s.os ∧ AllBare s'.gens) s := by
  have rv := vals_ints itz
  have le := itz.length
  cases lk : K.lookup a with
  | some o =>
    have g := kin a o lk
    cases sc.symm.trans g
    have on0 : Only (fun _ => none) := fun _ => .inl rfl
    have sq0 : SqL K (fun _ => none) a (ns.map V.int) := .inr ⟨_, vs.toArray, _, lk, rfl, rfl, rfl, by rw [List.size_toArray, le]; exact ln, by simpa using rv⟩
    exact top_from kin nsg nsb boot nl gs sc Fn bnd (pr _ on0 sq0) no on0 (fun b u z => by cases (show (none : Option HO) = some u from z)) (fun b z => absurd rfl z) fun z => absurd rfl z
  | none =>
    have at1 : scH a vs ns a = some (.frz { cls := .type "list", data := .seq vs.toArray } (.lst (ns.map V.int))) := if_pos rfl
    have at0 : ∀ b, b ≠ a → scH a vs ns b = none := fun b z => if_neg z
    have on1 : Only (scH a vs ns) := fun b => by
      by_cases z : b = a
      · subst z; exact .inr ⟨_, _, at1⟩
      · exact .inl (at0 b z)
    refine top_from kin nsg nsb boot nl gs sc Fn bnd (pr _ on1 (.inl (.inr ⟨_, at1⟩))) no on1 (fun b u z => ?_) (fun b z => Classical.byContradiction fun q => z (at0 b q)) fun _ => lk
    by_cases q : b = a
    · subst q
      cases at1.symm.trans z
      exact ⟨sc, by rw [List.length_map]; exact ln, vs, _, rv, sc⟩
    · rw [at0 b q] at z
      cases z
theorem walk_top {l : PySem.W.OpenLaw} {n : Nat} {q : Program} {loose : List Str} {XP : (Str → Option Value) → Heap → Prop} {YP : World → Heap → Prop} {d : DefRec} {CX : CXT} {x : Str}
    (most : l.most = some n) (fits : n ≤ sizeLine) (nodf : d.params.defaults = [])
    (F : ∀ (w : World) (mg : Str → Option Value) (fa : Addr) (h : Heap), YP w h → h.Ns mainGlobals mg → mg d.name = some (.ref fa) →
      ∃ (K : PySem.W.Frag) (fd : FuncData) (sp : Sp), K.In h ∧ (∀ (s : Shared) (u : Value), BindsTo s fd ⟨[u], []⟩ [(x, u)]) ∧
        (∀ (H : Hp) (a : Addr) (ns : List Int), ns.length ≤ n → Only H → SqL K H a (ns.map V.int) → sp [.ref a] H (fun v _ => v = .bl true) fun _ _ _ => False) ∧ ∀ base : Heap, K.In base → base.Ns mainGlobals mg → FnTop l.prog w K mg base CX fa fd [x] sp)
    (no : ∀ (H : Hp) (s : Shared) (e : Value) (s' : Shared), CX [] H s (fun _ _ _ => False) e s' → False) :
    PySem.W.WalkO q loose XP YP l.row.toRowW d [] (fun f vs => PySem.call f vs) := by
  refine Att.attach_call most nodf fun w s₀ s₁ mg mb fa o pm cd doc a vs ns G Y ho hd hcd gm sc itz len gs => ?_
  obtain ⟨K, fd, sp, kin, bnd, prm, Fn⟩ := F w mg fa _ Y G.T.g gm
  exact top_call kin G.T.g G.T.b G.T.builtins G.T.nolimit gs sc itz (Nat.le_trans len fits) Fn bnd (fun H a1 a2 => prm H a ns len a1 a2) fun H e s' => no H s₁ e s'
/-- THE RULE of the law's def, walked with the caller's eyes -/
theorem fnTop {P : Program} {w : World} {K : PySem.W.Frag} {mg : Str → Option Value} {base : Heap} {k : Nat} {x qual : Str} {st : Stmt} {f : Addr} {fd : FuncData} {N ps : List Str} {pm Γl : List Md} {mr : Md} {g : GS}
    (Fn : FunD K x qual (defArgs st) (defBody st) (defScope st) [] [] f fd) (S : FnScope N ps (defScope st)) (hr : Room (k + 1) callerA) (hN : pm.length + Γl.length = N.length) (qr : mr.rd = true)
    (hb : ∀ (cdv : Value) (A : Around) (outer : List PySem.Env) (s : Shared) (H : Hp) (E : XK), A.guards = some [] → Room k (A.deeper (envOfC qual (defScope st) s.heap.objs.size f cdv)) →
      ∃ t, PSs (cxOf CX0 P w K mg base N qual (defScope st) f cdv A outer s H E).nox (defBody st) t ∧ ∀ (Bp F0 : Hp), ∃ Γ', SS ⟨K, mg, Bp, F0, []⟩ W0 mr [] (pm ++ Γl) t g Γ') :
    FnTop P w K mg base CX0 f fd ps (spD K mg X0 pm mr (runB g N.length)) := by
  refine fn_top Fn S hr fun cdv s H vs Q E hr2 h => ?_
  obtain ⟨F, ds, h1, h2, h3⟩ := h
  obtain ⟨t, ht, hs⟩ := hb cdv callerA [] s H E rfl hr2
  obtain ⟨l1, l2⟩ := h2.len
  obtain ⟨Γ', hs⟩ := hs H F
  refine ⟨t, ht.nox, hs F H (start N vs) (startD N.length ds) [] _ rfl ?_ ?_⟩
  · refine ⟨h1, fun p hp => (by cases hp), [], [], List.nodup_nil, ?_, rfl⟩
    unfold L2.start startD
    rw [l1, l2, show N.length - pm.length = Γl.length by omega]
    exact slots_start Γl h2
  · unfold runB at h3
    revert h3
    cases g (startD N.length ds) with
    | nx ρ' => exact fun h3 F1 H1 σ1 s1 r1 => h3 F1 H1 .non [] s1 r1.fit (At.flat qr rfl) List.nodup_nil
    | rt d ρ' =>
      intro h3 F1 H1 Γr σ1 L1 v s1 r1
      obtain ⟨f1, f2, nd, a, g1, g2, e1, e2, e3⟩ := r1.own
      subst e1
      exact h3 F1 H1 v g1 s1 r1.fit e2 (nd.sublist (List.Sublist.trans (List.sublist_append_left _ _) (List.sublist_append_right _ _)))
    | bk ρ' => exact fun h => h.elim
    | ct ρ' => exact fun h => h.elim
    | ex c d => exact fun h3 F1 H1 s1 f1 => h3 F1 H1 s1 f1
    | stuck => exact fun h => h
/-! ### repr -/
def rRepr (K : PySem.W.Frag) : RA := fun xs H Q => ∃ (a : Addr) (d : PyData), xs = [.ref a] ∧ Dp K H (.ref a) d ∧ d.showable = true ∧ d.hasDict = false ∧ d.depth ≤ 20 ∧ d.shown.length ≤ sizeLine ∧ Q (.str d.shown) H
theorem cr_repr {X : Cx} (hg : X.A.guards = some []) (hu : X.A.units + 65 < cLine) : CallR X (.builtin "repr") (rRepr X.K) := by
  intro pins s σ H xs us Q I r h
  obtain ⟨a, d, rfl, hd, h1, h2, h3, h4, q⟩ := h
  obtain ⟨u, rfl, ru⟩ := vals1 r
  obtain ⟨as, rd⟩ := Dp.reads I d _ u hd ru
  obtain rfl : u = Value.ref a := ru
  exact repr_of_reads' rd h1 (PyData.noDict_hsm h2) hg (by omega) (fun _ _ e => e) (fun h' t tk hk => ⟨.str d.shown, H, I.kept (t' := tk) hk, ⟨_, rfl⟩, q⟩) h4
theorem kx_repr {X : Cx} {K : PySem.W.Frag} (h : X.K = K) (hg : X.A.guards = some []) (hu : X.A.units + 65 < cLine) : CallR X (.builtin "repr") (rRepr K) := by subst h; exact cr_repr hg hu
def isSq : DV → Bool
  | .tup _ => true
  | .lst _ => true
  | _ => false
def dRepr : OpA
  | [d] => if ((isSq d && eqok d 20) && ((py d).showable && decide ((py d).shown.length ≤ sizeLine))) = true then .ok (.str (py d).shown) else .stuck
  | _ => .stuck
theorem cs_repr {C : Cxt} {W : Wx} {m : Md} (q : m.rd = true := by rfl) : CallS C W (rRepr C.K) dRepr [m] .fr := call1 fun Γ F H σ ρ L x dx Q r k => by
  have k : PE' C W Γ F H σ ρ L .fr Q (if ((isSq dx && eqok dx 20) && ((py dx).showable && decide ((py dx).shown.length ≤ sizeLine))) = true then .ok (.str (py dx).shown) else .stuck) := k
  split at k
  · rename_i hz
    simp only [Bool.and_eq_true] at hz
    obtain ⟨⟨z1, z2⟩, z3, z4⟩ := hz
    have da := r.da q
    obtain ⟨e1, e2⟩ := eqok_ok dx 20 z2
    have dp := da_dp dx 20 x z2 da
    have hx : ∃ a, x = .ref a := by
      cases dx with
      | tup ds => obtain ⟨a, vs, h1, _⟩ := da; exact ⟨a, h1⟩
      | lst ds => obtain ⟨a, vs, h1, _⟩ := da; exact ⟨a, h1⟩
      | _ => cases z1
    obtain ⟨a, rfl⟩ := hx
    exact ⟨a, py dx, rfl, dp, z3, PyData.hasDict_of_canLay _ e1, e2, of_decide_eq_true z4, k.flat r.tail rfl rfl⟩
  · exact k.elim
end DL
end

/-! text DO2 -/
section
set_option maxRecDepth 100000
set_option maxHeartbeats 4000000
/-! an owned pair unpacked; append to a list that nobody names -/
namespace DL
open PySem PySem.Spec PyProof.Rows L2
section
variable {C : Cxt} {W : Wx} {F F' H H' : Hp} {Γ Γb Γ' : List Md} {σ : L2.St} {ρ : EnvD} {L : List Ent} {m ma mb mr : Md} {d : DV} {v : V} {Dn : Ends}
theorem Rep.untup2 {x y : DV} (r : Rep C F H Γ σ ρ ((.tu m, .tup [x, y], v) :: L)) : ∃ a vx vy, v = .ref a ∧ SqT C.K H a [vx, vy] ∧ Rep C F H Γ σ ρ ((m, y, vy) :: (m, x, vx) :: L) := by
  obtain ⟨f1, f2, nd, a, g1, g2, h1, h2, h3⟩ := r.own
  unfold At at h2
  rw [if_pos (show isTup (.tup [x, y]) = true from rfl)] at h2
  obtain ⟨p, vs, e1, e2, e3⟩ := h2
  obtain ⟨vx, r1, fx, fr, k1, k2, k3, k4⟩ := e3
  obtain ⟨vy, r2, fy, fe, j1, j2, j3, j4⟩ := k4
  obtain ⟨i1, i2⟩ := j4
  subst i1
  subst i2
  subst j1
  subst k1
  subst j2
  subst k2
  subst h1
  refine ⟨p, vx, vy, e1, same_sqt r.fit.fh e2, r.fit, r.io, f1, fy ++ (fx ++ g2), ?_, a, fy, fx ++ g2, rfl, j3, fx, g2, rfl, k3, h3⟩
  refine List.Perm.nodup (List.perm_iff_count.mpr fun b => ?_) nd
  simp only [List.count_append, List.append_nil]
  omega
def gtUp (i j : Nat) : GG := fun d ρ => match d with
  | .tup [x, y] => if (DL.flat x).isSome = true then .ok ((ρ.set i (some x)).set j (some y)) else .stuck
  | _ => .stuck
theorem nx_up {i j : Nat} : ∀ d ρ c e, gtUp i j d ρ ≠ .ex c e := fun d ρ c e h => by
  unfold gtUp at h
  split at h
  · split at h <;> cases h
  · cases h
theorem sn_up {i j : Nat} (hi : Γ[i]? = some .fr) (hj : Γ[j]? = some m) (hio : ∀ p ∈ C.io, ∀ k ∈ [i, j], p.1 ≠ k) (q : m.rd = true := by rfl) : SN C Γ (L2.gTup C.K 2 (L2.gCons (L2.gName i) (L2.gCons (L2.gName j) L2.gNil))) (gtUp i j) (.tu m) [i, j] := by
  intro F H σ ρ L d v ρ' Q r h k
  unfold gtUp at h
  split at h
  · rename_i x y
    split at h
    · rename_i hz
      cases h
      obtain ⟨w, hw⟩ := Option.isSome_iff_exists.mp hz
      obtain ⟨a, vx, vy, e1, e2, r1⟩ := r.untup2
      have r2 : Rep C F H Γ σ ρ ((.fr, x, vx) :: (m, y, vy) :: L) := r1.swap.turn fun f hf => ⟨[], List.nil_sublist _, by
        have e := da_flat hw (r1.swap.da q)
        subst e
        exact At.flat rfl hw⟩
      have li : i < Γ.length := (List.getElem?_eq_some_iff.mp hi).1
      have lj : j < Γ.length := (List.getElem?_eq_some_iff.mp hj).1
      have r3 := r2.put li fun p hp => hio p hp i List.mem_cons_self
      rw [set_id hi] at r3
      have r4 := r3.put lj fun p hp => hio p hp j (List.mem_cons_of_mem _ List.mem_cons_self)
      rw [set_id hj] at r4
      refine ⟨a, [vx, vy], e1, e2, rfl, vx, [vy], rfl, vy, [], rfl, rfl, k _ (fun us hu => ?_) r4⟩
      rw [wipe_set _ j _ us (hu j (List.mem_cons_of_mem _ List.mem_cons_self)), wipe_set _ i _ us (hu i List.mem_cons_self)]
    · cases h
  · cases h
/-! ### e.append(x), e a new list -/
def gAppT (ge gx : GE) : GX := fun ρ => (ge ρ).bind fun d => match d with
  | .lst ds => (gx ρ).bind fun _ => if ds.length < sizeLine then .ok (.non, ρ) else .stuck
  | _ => .stuck
theorem sx_appT {te tx : TE} {ge gx : GE} (he : SE C W Γ te ge (.own m)) (hx : SE C W Γ tx gx m) (hΓ : Γ.all Md.stor = true) (qm : m.stor = true := by rfl) : SX C W Γ (tBM C.K "list" rAppend te (tCons tx tNil)) (gAppT ge gx) .fr := by
  intro F H σ ρ L Q hs r k
  show te σ H fun v H1 => tyV C.K "list" v H1 ∧ tx σ H1 fun y H2 => rAppend v [y] H2 Q
  refine he F H σ ρ L _ hs.ok r ?_
  unfold gAppT at k
  revert k
  cases ge ρ with
  | ex c d => exact fun k F1 H1 s1 s2 f => k F1 H1 s1 f
  | stuck => exact fun k => k
  | ok d =>
    cases d with
    | lst ds =>
      intro k F1 H1 v s1 s2 r1
      have k : PX' C W Γ F H σ L .fr Q ((gx ρ).bind fun _ => if ds.length < sizeLine then .ok (.non, ρ) else .stuck) := k
      obtain ⟨f, hf⟩ := r1.head
      unfold At at hf
      rw [if_pos (show isLD (.lst ds) = true from rfl)] at hf
      obtain ⟨a, ws, o, fc, rfl, _, _, hH, hN, _, _⟩ := hf
      obtain rfl : o = .lst ws := hN
      refine ⟨.inl ⟨rfl, ws, .inl (.inl hH)⟩, ?_⟩
      refine hx F1 H1 σ ρ _ _ (storL_cons qm hs).ok r1 ?_
      revert k
      cases gx ρ with
      | ex c d => exact fun k F2 H2 s3 s4 f => k F2 H2 (s1.trans s3) f
      | stuck => exact fun k => k
      | ok dx =>
        intro k F2 H2 y s3 s4 r2
        have k : PX' C W Γ F H σ L .fr Q (if ds.length < sizeLine then .ok (.non, ρ) else .stuck) := k
        split at k
        · rename_i hz
          obtain ⟨p, vs, z1, z2, z3, z4, z5, z6⟩ := r2.push hΓ qm
          cases z1
          refine ⟨a, vs, y, rfl, rfl, z2, by rw [← z3]; exact hz, ?_⟩
          exact k F2 _ .non (s1.trans s3) ((z6 (Safe.of hs)).tail.cons0 ⟨rfl, rfl⟩)
        · exact k.elim
    | _ => exact fun k => k.elim
theorem kx_fld {X : Cx} {K : PySem.W.Frag} {e : Expr} {f : Str} {pos : Pos} {ta : TE} (h : X.K = K) (he : PE X e ta) (hb : attributeBase e f X.env (eval e X.env) = eval e X.env) : PE X (.Attribute e f pos) (tFld K ta f) := by
  subst h
  exact pe_fld he hb
end
end DL
end

/-! text DM0 -/
section
set_option maxRecDepth 100000
set_option maxHeartbeats 4000000
/-! changes in place below a name: at a path of constants, and through the name of a loop -/
namespace DL
open PySem PySem.Spec PyProof.Rows L2
section
variable {C : Cxt} {W : Wx} {F F' H H' : Hp} {Γ Γb Γ' : List Md} {σ : L2.St} {ρ : EnvD} {L : List Ent} {m ma mb mr M : Md} {d : DV} {v : V} {Dn : Ends} {i j : Nat} {t tb : TS} {f : DV → Rs DV}
abbrev SV := V → Hp → (Hp → Prop) → Prop
/-- a change in place of the value v, at one list node that it owns -/
def MutV (C : Cxt) (M : Md) (f : DV → Rs DV) (s : SV) : Prop :=
  ∀ F H d v fp d' Q, Fit C F H → At C F H M d v fp → fp.Nodup → f d = .ok d' →
    (∀ p ws fp', p ∈ fp → fp'.Sublist fp → At C F (L2.upd H p (.lst ws)) M d' v fp' → Q (L2.upd H p (.lst ws))) → s v H Q
theorem Alls.focus {R : DV → V → List Addr → Prop} {x : DV} : ∀ {ds : List DV} {vs : List V} {fp : List Addr} {j : Nat}, Alls R ds vs fp → ds[j]? = some x →
    ∃ w f1 fj f2, vs[j]? = some w ∧ fp = f1 ++ (fj ++ f2) ∧ R x w fj ∧ ∀ (R' : DV → V → List Addr → Prop) y g, (∀ d v f, (∀ a ∈ f, a ∈ f1 ++ f2) → R d v f → R' d v f) → R' y w g → Alls R' (ds.set j y) vs (f1 ++ (g ++ f2))
  | [], _, _, j, _, e => by simp at e
  | d :: ds, _, _, 0, ⟨w, r, f1, f2, h1, h2, h3, h4⟩, e => by
    subst h1
    simp at e
    subst e
    refine ⟨w, [], f1, f2, rfl, h2, h3, fun R' y g k hy => ⟨w, r, g, f2, rfl, rfl, hy, h4.imp fun d v f hf x => k d v f (fun a ha => ?_) x⟩⟩
    exact hf a ha
  | d :: ds, _, _, j + 1, ⟨w, r, f1, f2, h1, h2, h3, h4⟩, e => by
    subst h1
    obtain ⟨u, g1, gj, g2, e1, e2, e3, e4⟩ := Alls.focus h4 (j := j) (by simpa using e)
    refine ⟨u, f1 ++ g1, gj, g2, by simpa using e1, by rw [h2, e2, List.append_assoc], e3, fun R' y g k hy => ⟨w, r, f1, g1 ++ (g ++ g2), rfl, by rw [List.append_assoc], k d w f1 (fun a ha => ?_) h3, e4 R' y g (fun d v f hf x => k d v f (fun a ha => ?_) x) hy⟩⟩
    · rw [List.append_assoc]; exact List.mem_append_left _ ha
    · rw [List.append_assoc]; exact List.mem_append_right _ (hf a ha)
theorem At.upd {p : Addr} {o : HO} {f : List Addr} (q : m.stor = true) (h : At C F H m d v f) (k : ∀ a ∈ f, a ≠ p) : At C F (L2.upd H p o) m d v f := h.mono (Same.refl _) (fun z hz => (h.owned z hz).1) (fun z hz => upd_ne (k z hz)) (.inl q)
/-! ### at the node itself -/
def sApp (K : PySem.W.Frag) (w : V) : SV := fun v H Q => tyV K "list" v H ∧ rAppend v [w] H fun _ H' => Q H'
def fApp (c : DV) (d : DV) : Rs DV := match d with
  | .lst ds => if ds.length < sizeLine then .ok (.lst (ds ++ [c])) else .stuck
  | _ => .stuck
theorem mut_app {c : DV} {w : V} (hc : flat c = some w) (qm : m.stor = true := by rfl) (qr : m.rd = true := by rfl) : MutV C (.own m) (fApp c) (sApp C.K w) := by
  intro F H d v fp d' Q fit h nd e k
  cases d with
  | lst ds =>
    have e : (if ds.length < sizeLine then (Rs.ok (DV.lst (ds ++ [c])) : Rs DV) else .stuck) = .ok d' := e
    split at e
    · rename_i hz
      cases e
      unfold At at h
      rw [if_pos (show isLD (.lst ds) = true from rfl)] at h
      obtain ⟨a, vs, o, fc, rfl, h2, h3, h4, h5, rfl, h7⟩ := h
      obtain rfl : o = .lst vs := h5
      refine ⟨.inl ⟨rfl, vs, .inl (.inl h4)⟩, a, vs, w, rfl, rfl, h4, by rw [← h7.length]; exact hz, ?_⟩
      have np := List.nodup_cons.mp nd
      refine k a (vs ++ [w]) (a :: fc) List.mem_cons_self (List.Sublist.refl _) ?_
      unfold At
      rw [if_pos (show isLD (.lst (ds ++ [c])) = true from rfl)]
      refine ⟨a, vs ++ [w], _, fc, rfl, h2, h3, upd_same, rfl, rfl, ?_⟩
      have e8 := (h7.imp (R' := At C F (L2.upd H a (.lst (vs ++ [w]))) m) fun d v f hf x => x.upd qm fun z hz e => np.1 (e ▸ hf z hz)).append (Alls.one (At.flat (F := F) (H := L2.upd H a (.lst (vs ++ [w]))) (C := C) qr hc))
      rw [List.append_nil] at e8
      exact e8
    · cases e
  | _ => cases e
def sSet (k : Int) (w : V) : SV := fun v H Q => rSetL v (.int k) w H Q
theorem mut_set {k : Int} {c : DV} {w : V} (hc : flat c = some w) (qm : m.stor = true := by rfl) (qr : m.rd = true := by rfl) : MutV C (.own m) (fun d => setD d (.int k) c) (sSet k w) := by
  intro F H d v fp d' Q fit h nd e kk
  cases d with
  | lst ds =>
    have e : (match ixN ds.length k with | some j => (Rs.ok (DV.lst (ds.set j c)) : Rs DV) | none => .stuck) = .ok d' := e
    cases ej : ixN ds.length k with
    | none => rw [ej] at e; cases e
    | some j =>
      rw [ej] at e
      cases e
      unfold At at h
      rw [if_pos (show isLD (.lst ds) = true from rfl)] at h
      obtain ⟨a, vs, o, fc, rfl, h2, h3, h4, h5, rfl, h7⟩ := h
      obtain rfl : o = .lst vs := h5
      refine ⟨a, vs, k, j, rfl, rfl, h4, by rw [← h7.length]; exact ej, ?_⟩
      have np := List.nodup_cons.mp nd
      have e8 := h7.imp (R' := At C F (L2.upd H a (.lst (vs.set j w))) m) fun d v f hf x => x.upd qm fun z hz e => np.1 (e ▸ hf z hz)
      obtain ⟨x, y, z, i1, i2⟩ := Alls.put (At.flat (F := F) (H := L2.upd H a (.lst (vs.set j w))) (C := C) qr hc) e8 (ixN_lt ej)
      refine kk a (vs.set j w) (a :: (x ++ ([] ++ z))) List.mem_cons_self ?_ ?_
      · rw [i1]
        exact List.Sublist.cons₂ a (List.Sublist.append (List.Sublist.refl _) (List.Sublist.append (List.nil_sublist _) (List.Sublist.refl _)))
      · unfold At
        rw [if_pos (show isLD (.lst (ds.set j c)) = true from rfl)]
        exact ⟨a, vs.set j w, _, _, rfl, h2, h3, upd_same, rfl, rfl, i2⟩
  | _ => cases e
/-! ### below -/
def sIx (K : PySem.W.Frag) (k : Int) (s : SV) : SV := fun v H Q => rIxX K v (.int k) H fun w H1 => s w H1 Q
def fLst (k : Int) (f : DV → Rs DV) (d : DV) : Rs DV := match d with
  | .lst ds => (match ixN ds.length k with
    | some j => (match ds[j]? with
      | some x => (f x).bind fun y => .ok (.lst (ds.set j y))
      | none => .stuck)
    | none => .stuck)
  | _ => .stuck
def fTup (k : Int) (f : DV → Rs DV) (d : DV) : Rs DV := match d with
  | .tup ds => (match ixN ds.length k with
    | some j => (match ds[j]? with
      | some x => (f x).bind fun y => .ok (.tup (ds.set j y))
      | none => .stuck)
    | none => .stuck)
  | _ => .stuck
theorem fLst_ok {k : Int} {ds : List DV} {d' : DV} (h : fLst k f (DV.lst ds) = .ok d') : ∃ j x y, ixN ds.length k = some j ∧ ds[j]? = some x ∧ f x = .ok y ∧ d' = DV.lst (ds.set j y) := by
  have h : (match ixN ds.length k with | some j => (match ds[j]? with | some x => (f x).bind fun y => (Rs.ok (DV.lst (ds.set j y)) : Rs DV) | none => .stuck) | none => .stuck) = .ok d' := h
  cases ej : ixN ds.length k with
  | none => rw [ej] at h; cases h
  | some j =>
    rw [ej] at h
    have h : (match ds[j]? with | some x => (f x).bind fun y => (Rs.ok (DV.lst (ds.set j y)) : Rs DV) | none => .stuck) = .ok d' := h
    cases ex : ds[j]? with
    | none => rw [ex] at h; cases h
    | some x =>
      rw [ex] at h
      obtain ⟨y, e1, e2⟩ := bind_ok h
      cases e2
      exact ⟨j, x, y, rfl, ex, e1, rfl⟩
theorem fTup_ok {k : Int} {ds : List DV} {d' : DV} (h : fTup k f (DV.tup ds) = .ok d') : ∃ j x y, ixN ds.length k = some j ∧ ds[j]? = some x ∧ f x = .ok y ∧ d' = DV.tup (ds.set j y) := by
  have h : (match ixN ds.length k with | some j => (match ds[j]? with | some x => (f x).bind fun y => (Rs.ok (DV.tup (ds.set j y)) : Rs DV) | none => .stuck) | none => .stuck) = .ok d' := h
  cases ej : ixN ds.length k with
  | none => rw [ej] at h; cases h
  | some j =>
    rw [ej] at h
    have h : (match ds[j]? with | some x => (f x).bind fun y => (Rs.ok (DV.tup (ds.set j y)) : Rs DV) | none => .stuck) = .ok d' := h
    cases ex : ds[j]? with
    | none => rw [ex] at h; cases h
    | some x =>
      rw [ex] at h
      obtain ⟨y, e1, e2⟩ := bind_ok h
      cases e2
      exact ⟨j, x, y, rfl, ex, e1, rfl⟩
theorem atI_of {α : Type} {xs : List α} {k : Int} {j n : Nat} {x : α} (h : ixN n k = some j) (hn : xs.length = n) (e : xs[j]? = some x) : L2.atI xs k = some x := by
  subst hn
  unfold L2.atI
  rw [h]
  exact e
theorem mutK {s : SV} {fc : List Addr} {ds : List DV} {vs : List V} {n : Nat} {x y : DV} {w : V} {Q : Hp → Prop} (h : MutV C m f s) (qm : m.stor = true) (fit : Fit C F H) (ha : Alls (At C F H m) ds vs fc) (nd : fc.Nodup) (ex : ds[n]? = some x) (ey : f x = .ok y) (ew : vs[n]? = some w)
    (k : ∀ p ws fp', p ∈ fc → fp'.Sublist fc → Alls (At C F (L2.upd H p (.lst ws)) m) (ds.set n y) vs fp' → Q (L2.upd H p (.lst ws))) : s w H Q := by
  obtain ⟨u, f1, fj, f2, e1, e2, e3, e4⟩ := Alls.focus ha ex
  rw [ew] at e1
  cases e1
  subst e2
  have np := List.nodup_append.mp nd
  have np2 := List.nodup_append.mp np.2.1
  refine h F H x w fj y Q fit e3 np2.1 ey fun p ws fp' hp hs hA => ?_
  refine k p ws (f1 ++ (fp' ++ f2)) (List.mem_append_right _ (List.mem_append_left _ hp)) (List.Sublist.append (List.Sublist.refl _) (List.Sublist.append hs (List.Sublist.refl _))) (e4 _ y fp' (fun d v f hf x => x.upd qm fun z hz e => ?_) hA)
  subst e
  rcases List.mem_append.mp (hf z hz) with q | q
  · exact np.2.2 z q z (List.mem_append_left _ hp) rfl
  · exact np2.2.2 z hp z q rfl
theorem mut_tu {k : Int} {s : SV} (h : MutV C m f s) (q : m.stor = true := by rfl) : MutV C (.tu m) (fTup k f) (sIx C.K k s) := by
  intro F H d v fp d' Q fit hA nd e kk
  cases d with
  | tup ds =>
    obtain ⟨j, x, y, e1, e2, e3, rfl⟩ := fTup_ok e
    unfold At at hA
    rw [if_pos (show isTup (.tup ds) = true from rfl)] at hA
    obtain ⟨a, vs, rfl, h2, h3⟩ := hA
    obtain ⟨w, _, _, _, ew, _, _, _⟩ := Alls.focus h3 e2
    refine .inr ⟨a, vs, k, w, rfl, rfl, same_sqt fit.fh h2, atI_of e1 h3.length.symm ew, ?_⟩
    refine mutK h q fit h3 nd e2 e3 ew fun p ws fp' hp hs hB => kk p ws fp' hp hs ?_
    unfold At
    rw [if_pos (show isTup (.tup (ds.set j y)) = true from rfl)]
    exact ⟨a, vs, rfl, h2, hB⟩
  | _ => cases e
theorem mut_own {k : Int} {s : SV} (h : MutV C m f s) (q : m.stor = true := by rfl) : MutV C (.own m) (fLst k f) (sIx C.K k s) := by
  intro F H d v fp d' Q fit hA nd e kk
  cases d with
  | lst ds =>
    obtain ⟨j, x, y, e1, e2, e3, rfl⟩ := fLst_ok e
    unfold At at hA
    rw [if_pos (show isLD (.lst ds) = true from rfl)] at hA
    obtain ⟨a, vs, o, fc, rfl, h2, h3, h4, h5, rfl, h7⟩ := hA
    obtain rfl : o = .lst vs := h5
    obtain ⟨w, _, _, _, ew, _, _, _⟩ := Alls.focus h7 e2
    have np := List.nodup_cons.mp nd
    refine .inl ⟨a, vs, k, w, rfl, rfl, .inl (.inl h4), atI_of e1 h7.length.symm ew, ?_⟩
    refine mutK h q fit h7 np.2 e2 e3 ew fun p ws fp' hp hs hB => kk p ws (a :: fp') (List.mem_cons_of_mem _ hp) (List.Sublist.cons₂ a hs) ?_
    unfold At
    rw [if_pos (show isLD (.lst (ds.set j y)) = true from rfl)]
    have hpa : a ≠ p := fun z => np.1 (z ▸ hp)
    exact ⟨a, vs, _, fp', rfl, h2, h3, by rw [upd_ne hpa]; exact h4, rfl, rfl, hB⟩
  | _ => cases e
/-! ### the environment behind it -/
theorem Rep.change (r : Rep C F H Γ σ ρ ((M, d, v) :: L)) (hΓ : Γ.all Md.stor = true) (hs : storL L) : ∃ fp, fp.Nodup ∧ At C F H M d v fp ∧ ∀ p ws d' fp', p ∈ fp → fp'.Sublist fp → At C F (L2.upd H p (.lst ws)) M d' v fp' → Rep C F (L2.upd H p (.lst ws)) Γ σ ρ ((M, d', v) :: L) := by
  obtain ⟨f1, f2, nd, a, g1, g2, h1, h2, h3⟩ := r.own
  subst h1
  have np := List.nodup_append.mp nd
  have np2 := List.nodup_append.mp np.2.1
  refine ⟨g1, np2.1, h2, fun p ws d' fp' hp hq hA => ?_⟩
  have op := h2.owned p hp
  have nm : ∀ x u, L2.upd H p (.lst ws) x = some u → tupO u = true → H x = some u := fun x u e t => by
    by_cases z : x = p
    · subst z; rw [upd_same] at e; cases e; cases t
    · rw [upd_ne z] at e; exact e
  have lq : ∀ x u, x ≠ p → H x = some u → L2.upd H p (.lst ws) x = some u := fun x u z e => by rw [upd_ne z]; exact e
  have fit : Fit C F (L2.upd H p (.lst ws)) := ⟨r.fit.ff, fun x u e => lq x u (fun z => by rw [z, op.1] at e; cases e) (r.fit.fh _ _ e), fun x u e => lq x u (fun z => by rw [z, op.2.1] at e; cases e) (r.fit.bh _ _ e), r.fit.f0, fun x u e t => r.fit.tp x u (nm x u e t) t⟩
  have o1 := a.owned
  have o4 := h3.owned
  have n1 : ∀ x ∈ f1, x ≠ p := fun x hx e => np.2.2 x hx p (List.mem_append_left _ hp) e
  have n4 : ∀ x ∈ g2, x ≠ p := fun x hx e => np2.2.2 p hp x hx e.symm
  refine ⟨fit, r.io, f1, fp' ++ g2, ?_, a.mono (Same.refl _) (fun x hx => (o1 x hx).1) (fun x hx => upd_ne (n1 x hx)) (.inl hΓ), fp', g2, rfl, hA, h3.safe (Safe.of hs) (fun x hx => (o4 x hx).1) n4⟩
  exact nd.sublist (List.Sublist.append (List.Sublist.refl _) (List.Sublist.append hq (List.Sublist.refl _)))
def gMut (i : Nat) (f : DV → Rs DV) : GS := fun ρ => match lk ρ i with
  | .ok d => (match f d with
    | .ok d' => .nx (ρ.set i (some d'))
    | _ => .stuck)
  | _ => .stuck
theorem ss_mut {s : SV} (hi : Γ[i]? = some M) (h : MutV C M f s) (ht : ∀ (Dn : Ends) σ H v, σ[i]? = some (some v) → s v H (fun H' => Dn.nx σ H') → t Dn σ H) (hΓ : Γ.all Md.stor = true := by rfl) : SS C W mr Γb Γ t (gMut i f) Γ := by
  intro F H σ ρ L Dn hs r k
  unfold gMut at k
  rcases lk_cases ρ i with ⟨d, g2, g3⟩ | g3
  · rw [g3] at k
    have k : PS' C W mr Γb Γ F H L Dn (match f d with | .ok d' => .nx (ρ.set i (some d')) | _ => .stuck) := k
    cases e : f d with
    | ok d' =>
      rw [e] at k
      have k : PS' C W mr Γb Γ F H L Dn (.nx (ρ.set i (some d'))) := k
      obtain ⟨v, h1, r1⟩ := r.take hi g2
      obtain ⟨fp, nd, hA, ch⟩ := r1.change hΓ hs
      refine ht Dn σ H v h1 (h F H d v fp d' _ r.fit hA nd e fun p ws fp' hp hq hB => ?_)
      have r3 := (ch p ws d' fp' hp hq hB).back h1 (.inl hi)
      rw [set_set', set_id hi] at r3
      exact k F _ σ (Same.refl _) r3
    | ex c x => rw [e] at k; exact k.elim
    | stuck => rw [e] at k; exact k.elim
  · rw [g3] at k
    exact k.elim
theorem Rep.name {i : Nat} (r : Rep C F H Γ σ ρ L) (s : Option V) (hio : ∀ p ∈ C.io, p.1 ≠ i) : Rep C F H Γ (σ.set i s) (ρ.set i none) L := by
  obtain ⟨f1, f2, nd, a, b⟩ := r.own
  obtain ⟨x, y, z, h1, h2⟩ := a.drop (i := i) s
  subst h1
  refine ⟨r.fit, fun p hp => ⟨by rw [List.getElem?_set_ne (Ne.symm (hio p hp))]; exact (r.io p hp).1, (r.io p hp).2⟩, x ++ z, f2, ?_, h2, b⟩
  refine nd.sublist (List.Sublist.append (List.Sublist.append (List.Sublist.refl _) (List.sublist_append_right _ _)) (List.Sublist.refl _))
/-! ### for y in xs: y changed in place -/
def mapR (f : DV → Rs DV) : List DV → Rs (List DV)
  | [] => .ok []
  | d :: ds => (f d).bind fun x => (mapR f ds).bind fun r => .ok (x :: r)
def gForM (i j : Nat) (f : DV → Rs DV) : GS := fun ρ => match lk ρ i with
  | .ok (.lst ds) => (match mapR f ds with
    | .ok es => .nx ((ρ.set j none).set i (some (.lst es)))
    | _ => .stuck)
  | _ => .stuck
theorem mapR_get : ∀ {ds es : List DV} {n : Nat} {d : DV}, mapR f ds = .ok es → ds[n]? = some d → ∃ y, f d = .ok y ∧ es[n]? = some y
  | [], _, n, _, _, e => by simp at e
  | d :: ds, es, n, x, h, e => by
    unfold mapR at h
    obtain ⟨y, e1, h⟩ := bind_ok h
    obtain ⟨r, e2, h⟩ := bind_ok h
    cases h
    cases n with
    | zero => simp at e; subst e; exact ⟨y, e1, rfl⟩
    | succ n =>
      obtain ⟨z, e3, e4⟩ := mapR_get e2 (n := n) (by simpa using e)
      exact ⟨z, e3, by simpa using e4⟩
theorem mapR_len : ∀ {ds es : List DV}, mapR f ds = .ok es → es.length = ds.length
  | [], es, h => by cases h; rfl
  | d :: ds, es, h => by
    unfold mapR at h
    obtain ⟨y, e1, h⟩ := bind_ok h
    obtain ⟨r, e2, h⟩ := bind_ok h
    cases h
    rw [List.length_cons, List.length_cons, mapR_len e2]
theorem step_tk {ds es : List DV} {n : Nat} {y : DV} (hl : es.length = ds.length) (e : es[n]? = some y) : (es.take n ++ ds.drop n).set n y = es.take (n + 1) ++ ds.drop (n + 1) := by
  have hn := (List.getElem?_eq_some_iff.mp e).1
  refine List.ext_getElem? fun k => ?_
  rw [List.getElem?_set]
  split
  · rename_i h
    subst h
    rw [if_pos (by rw [List.length_append, List.length_take, List.length_drop]; omega), List.getElem?_append_left (by rw [List.length_take]; omega), List.getElem?_take, if_pos (by omega), e]
  · rename_i h
    by_cases hk : k < n
    · rw [List.getElem?_append_left (by rw [List.length_take]; omega), List.getElem?_append_left (by rw [List.length_take]; omega), List.getElem?_take, List.getElem?_take, if_pos hk, if_pos (by omega)]
    · rw [List.getElem?_append_right (by rw [List.length_take]; omega), List.getElem?_append_right (by rw [List.length_take]; omega), List.getElem?_drop, List.getElem?_drop, List.length_take, List.length_take]
      congr 1
      omega
theorem ss_forM {s : SV} (hi : Γ[i]? = some (.own m)) (hij : i ≠ j) (hjo : ∀ p ∈ C.io, p.1 ≠ j) (h : MutV C m f s) (hb : ∀ (Dn : Ends) σ H v, σ[j]? = some (some v) → s v H (fun H' => Dn.nx σ H') → tb Dn σ H) (hj : j < Γ.length) (qm : m.stor = true := by rfl) (hΓ : Γ.all Md.stor = true := by rfl) :
    SS C W mr Γb Γ (tFor (iSeq C.K (tVar i)) (L2.gName j) tb) (gForM i j f) Γ := by
  intro F H σ ρ L Dn hs r k
  unfold gForM at k
  rcases lk_cases ρ i with ⟨d, g2, g3⟩ | g3
  case inr => rw [g3] at k; exact k.elim
  rw [g3] at k
  cases d with
  | lst ds =>
    have k : PS' C W mr Γb Γ F H L Dn (match mapR f ds with | .ok es => .nx ((ρ.set j none).set i (some (.lst es))) | _ => .stuck) := k
    cases e : mapR f ds with
    | ex c x => rw [e] at k; exact k.elim
    | stuck => rw [e] at k; exact k.elim
    | ok es =>
      rw [e] at k
      have k : PS' C W mr Γb Γ F H L Dn (.nx ((ρ.set j none).set i (some (.lst es)))) := k
      have el := mapR_len e
      obtain ⟨v, h1, r1⟩ := r.take hi g2
      obtain ⟨fp, hA⟩ := r1.head
      unfold At at hA
      rw [if_pos (show isLD (.lst ds) = true from rfl)] at hA
      obtain ⟨a, vs, o, fc, rfl, h2, h3, h4, h5, h6, h7⟩ := hA
      obtain rfl : o = .lst vs := h5
      have lv : ds.length = vs.length := h7.length
      refine .inl ⟨.ref a, h1, a, rfl, ⟨vs, .inl (.inl h4)⟩, ?_⟩
      refine for_list (xs := vs) (fun n σ' H' => H' a = some (.lst vs) ∧ σ'[i]? = some (some (.ref a)) ∧ Rep C F H' Γ σ' ((ρ.set i none).set j none) ((.own m, .lst (es.take n ++ ds.drop n), .ref a) :: L)) ⟨h4, h1, ?_⟩ (fun n σ' H' _ p => .inl (.inl p.1)) (fun n x σ' H' hx p => ?_) (fun σ' H' p => ?_)
      · have sj : σ.set j (σ[j]?.getD none) = σ := by
          by_cases hl : j < σ.length
          · refine set_id ?_
            rw [List.getElem?_eq_getElem hl]
            rfl
          · exact List.set_eq_of_length_le (by omega)
        have r2 := r1.name (i := j) (σ[j]?.getD none) hjo
        rw [sj] at r2
        exact r2
      · obtain ⟨p1, p2, r3⟩ := p
        have hn : n < ds.length := by rw [lv]; exact (List.getElem?_eq_some_iff.mp hx).1
        obtain ⟨y, ey, ez⟩ := mapR_get e (List.getElem?_eq_getElem hn)
        have r4 := r3.name (i := j) (some x) hjo
        rw [set_set'] at r4
        have hsj : (σ'.set j (some x))[j]? = some (some x) := by
          have : j < σ'.length := by
            obtain ⟨q1, q2, _, qa, _⟩ := r3.own
            rw [qa.len.1]
            exact hj
          rw [List.getElem?_set_self this]
        refine hb _ _ _ x hsj ?_
        obtain ⟨fp, nd, hA, ch⟩ := r4.change hΓ hs
        have hA2 := hA
        unfold At at hA
        rw [if_pos (show isLD (.lst (es.take n ++ ds.drop n)) = true from rfl)] at hA
        obtain ⟨a2, vs2, o, fc, q1, q2, q3, q4, q5, q6, q7⟩ := hA
        cases q1
        obtain rfl : o = .lst vs2 := q5
        rw [p1] at q4
        cases q4
        subst q6
        have np := List.nodup_cons.mp nd
        have ex : (es.take n ++ ds.drop n)[n]? = some ds[n] := by
          rw [List.getElem?_append_right (by rw [List.length_take]; omega), List.getElem?_drop, List.length_take]
          rw [show n + (n - min n es.length) = n by omega]
          exact List.getElem?_eq_getElem hn
        refine mutK h qm r4.fit q7 np.2 ex ey hx fun p ws fp' hp hq hB => ?_
        have hpa : a ≠ p := fun z => np.1 (z ▸ hp)
        refine ⟨by rw [upd_ne hpa]; exact p1, ?_, ?_⟩
        · rw [List.getElem?_set_ne (Ne.symm hij)]
          exact p2
        · rw [← step_tk el ez]
          refine ch p ws _ (a :: fp') (List.mem_cons_of_mem _ hp) (List.Sublist.cons₂ a hq) ?_
          unfold At
          rw [if_pos (show isLD (.lst ((es.take n ++ ds.drop n).set n y)) = true from rfl)]
          exact ⟨a, vs, _, fp', rfl, q2, q3, by rw [upd_ne hpa]; exact p1, rfl, rfl, hB⟩
      · obtain ⟨p1, p2, r3⟩ := p
        rw [← lv, List.drop_length, List.append_nil, ← el, List.take_length] at r3
        have r4 := r3.back p2 (.inl hi)
        rw [set_id hi] at r4
        have e9 : ((ρ.set i none).set j none).set i (some (.lst es)) = (ρ.set j none).set i (some (.lst es)) := by
          rw [List.set_comm _ _ (by omega), set_set', List.set_comm _ _ (by omega)]
        rw [e9] at r4
        exact k F H' σ' (Same.refl _) r4
  | _ => exact k.elim
/-! ### frozen behind a statement -/
theorem Rep.late {i : Nat} {F' : Hp} (r : Rep C F H Γ σ ρ L) (e1 : Γ[i]? = some m) (q : m.fz = true) (hio : ∀ p ∈ C.io, p.1 ≠ i) : ∃ F', Same F F' ∧ Rep C F' H (Γ.set i .fr) σ ρ L := by
  rcases lk_cases ρ i with ⟨d, g2, _⟩ | g3
  · obtain ⟨v, F', h1, h2, h3⟩ := r.share e1 g2 q hio
    exact ⟨F', h2, h3.tail⟩
  · refine ⟨F, Same.refl _, r.fit, fun p hp => ⟨(r.io p hp).1, by rw [List.getElem?_set_ne (Ne.symm (hio p hp))]; exact (r.io p hp).2⟩, ?_⟩
    obtain ⟨f1, f2, nd, a, b⟩ := r.own
    refine ⟨f1, f2, nd, ?_, b⟩
    have key : ∀ {Γ : List Md} {σ : L2.St} {ρ : EnvD} {fp : List Addr} {i : Nat}, Slots C F H Γ σ ρ fp → lk ρ i = .stuck → Slots C F H (Γ.set i .fr) σ ρ fp := by
      intro Γ
      induction Γ with
      | nil => intro σ ρ fp i h _; exact h
      | cons m1 Γ ih =>
        intro σ ρ fp i h z
        cases σ with
        | nil => cases h
        | cons s1 σ =>
          cases ρ with
          | nil => cases h
          | cons r1 ρ =>
            obtain ⟨f1, f2, h1, h2, h3⟩ := h
            cases i with
            | zero =>
              cases r1 with
              | none => exact ⟨f1, f2, h1, h2, h3⟩
              | some d => cases z
            | succ i => exact ⟨f1, f2, h1, h2, ih h3 z⟩
    exact key a g3
theorem ss_frz {g : GS} (h : SS C W mr Γb Γ t g Γ') (hi : Γ'[i]? = some m) (hio : ∀ p ∈ C.io, p.1 ≠ i) (q : m.fz = true := by rfl) : SS C W mr Γb Γ t g (Γ'.set i .fr) := by
  intro F H σ ρ L Dn hs r k
  refine h F H σ ρ L Dn hs r ?_
  revert k
  cases g ρ with
  | nx ρ' =>
    intro k F1 H1 σ1 s1 r1
    obtain ⟨F2, s2, r2⟩ := r1.late (F' := F1) hi q hio
    exact k F2 H1 σ1 (s1.trans s2) r2
  | _ => exact fun k => k
/-! ### a list of flat data, read in any mode -/
def gFlatK (g : GE) : GE := fun ρ => (g ρ).bind fun d => match d with
  | .lst ds => if (flats ds).isSome = true then .ok (.lst ds) else .stuck
  | d => if (DL.flat d).isSome = true then .ok d else .stuck
theorem flats_alls : ∀ {ds : List DV} {vs ws : List V}, flats ds = some ws → DAs C.K C.mg H ds vs → m.rd = true → Alls (At C F H m) ds vs []
  | [], _, _, _, h, _ => ⟨h, rfl⟩
  | d :: ds, _, ws, e, ⟨w, r, h1, h2, h3⟩, q => by
    unfold flats at e
    cases e1 : DL.flat d with
    | none => rw [e1] at e; simp at e
    | some u =>
      cases e2 : flats ds with
      | none => rw [e1, e2] at e; simp at e
      | some us =>
        have z := da_flat e1 h2
        subst z
        exact ⟨_, r, [], [], h1, rfl, At.flat q e1, flats_alls e2 h3 q⟩
theorem se_flatK {t : TE} {g : GE} (h : SE C W Γ t g ma) (q : ma.rd = true := by rfl) (qm : m.rd = true := by rfl) : SE C W Γ t (gFlatK g) (.pk m) := by
  intro F H σ ρ L Q hL r k
  unfold gFlatK at k
  refine se_then h hL r k fun d F1 H1 x s1 s2 r1 k1 => ?_
  have fl : ∀ d, (∀ ds, d ≠ .lst ds) → PE' C W Γ F1 H1 σ ρ L (.pk m) Q (if (DL.flat d).isSome = true then .ok d else .stuck) → Rep C F1 H1 Γ σ ρ ((ma, d, x) :: L) → Q x H1 := by
    intro d _ k1 r1
    split at k1
    · rename_i hz
      obtain ⟨w, hw⟩ := Option.isSome_iff_exists.mp hz
      have e := da_flat hw (r1.da q)
      subst e
      exact k1.flat r1.tail qm hw
    · exact k1.elim
  cases d with
  | lst ds =>
    have k1 : PE' C W Γ F1 H1 σ ρ L (.pk m) Q (if (flats ds).isSome = true then .ok (.lst ds) else .stuck) := k1
    split at k1
    · rename_i hz
      obtain ⟨ws, hw⟩ := Option.isSome_iff_exists.mp hz
      obtain ⟨a, vs, rfl, h2, h3⟩ := r1.da q
      refine k1.give r1.tail ?_
      unfold At
      rw [if_pos (show isLD (.lst ds) = true from rfl)]
      exact ⟨a, vs, rfl, h2, flats_alls hw h3 qm⟩
    · exact k1.elim
  | non => exact fl _ (fun _ => by rintro ⟨⟩) k1 r1
  | bl b => exact fl _ (fun _ => by rintro ⟨⟩) k1 r1
  | int b => exact fl _ (fun _ => by rintro ⟨⟩) k1 r1
  | str b => exact fl _ (fun _ => by rintro ⟨⟩) k1 r1
  | tup b => exact fl _ (fun _ => by rintro ⟨⟩) k1 r1
  | dct b c => exact fl _ (fun _ => by rintro ⟨⟩) k1 r1
  | obj b c e => exact fl _ (fun _ => by rintro ⟨⟩) k1 r1
end
end DL
end

/-! text DM1 -/
section
set_option maxRecDepth 100000
set_option maxHeartbeats 4000000
/-! xs.extend(ys), xs a name's own list of frozen data, ys frozen -/
namespace DL
open PySem PySem.Spec PyProof.Rows L2
def rExtendR : V → List V → Hp → VK → Prop := fun x vs H Q => ∃ l b xs zs, x = .ref l ∧ vs = [.ref b] ∧ H l = some (.lst xs) ∧ Rd H b (.lst zs) ∧ xs.length + zs.length ≤ sizeLine ∧ Q .non (L2.upd H l (.lst (xs ++ zs)))
theorem mt_extendR {X : Cx} : MtM X "list.extend" rExtendR := by
  intro pins s σ H x vs v us Q I rx rv h
  obtain ⟨l, b, xs, zs, rfl, rfl, hH, hB, hz, q⟩ := h
  cases rx
  obtain ⟨u, rfl, ru⟩ := rv.one
  cases ru
  obtain ⟨z, its, n, r, hl, e⟩ := I.lstM hH
  obtain ⟨z2, its2, n2, r2, e2⟩ := hB.ok I.hok
  have hl2 := r2.length
  have hsz : its.toArray.size + its2.toArray.size ≤ sizeLine := by rw [List.size_toArray, List.size_toArray]; omega
  have hlong : ¬ (!its.toArray.isEmpty && Builtin.List.listTooLong (its.toArray.size + its2.toArray.size)) = true := by
    rw [notLongL hsz, Bool.and_false]
    exact Bool.false_ne_true
  refine call_meets F.slot_list_extend ⟨_, e, rfl⟩ F.entry_list_extend (F.args_list_extend_2 _ _)
    (AutoSeq1.list_extend_list_list_0 l its.toArray n b its2.toArray n2 hlong (by rw [List.size_toArray]; omega) (by omega)) ⟨e, e2, ?_⟩
  refine ⟨.non, _, I.lset (its' := its ++ its2) hH e (by simp) (r.append r2) ?_, rfl, q⟩
  rw [List.length_append]
  omega
section
variable {C : Cxt} {W : Wx} {F F' H H' : Hp} {Γ Γb Γ' : List Md} {σ : L2.St} {ρ : EnvD} {L : List Ent} {m ma mb mr M : Md} {d : DV} {v : V} {Dn : Ends}
def extD (x : Rs DV) (y : DV) (ρ : EnvD) (i : Nat) : Rs (DV × EnvD) := match x, y with
  | .ok (.lst ds), .lst es => if ds.length + es.length ≤ sizeLine then .ok (.non, ρ.set i (some (.lst (ds ++ es)))) else .stuck
  | _, _ => .stuck
def gExt (i : Nat) (g : GX) : GX := fun ρ => match lk ρ i with
  | .ok (.lst _) => (g ρ).bind fun p => extD (lk p.2 i) p.1 p.2 i
  | _ => .stuck
theorem sx_ext {i : Nat} {t : TE} {g : GX} (hi : Γ[i]? = some (.own .fr)) (h : SX C W Γ t g .fr) (hΓ : Γ.all Md.stor = true := by rfl) : SX C W Γ (tBM C.K "list" rExtendR (tVar i) (tCons t tNil)) (gExt i g) .fr := by
  intro F H σ ρ L Q hs r k
  show tVar i σ H fun v H1 => tyV C.K "list" v H1 ∧ t σ H1 fun y H2 => rExtendR v [y] H2 Q
  unfold gExt at k
  rcases lk_cases ρ i with ⟨d, e2, e3⟩ | e3
  · rw [e3] at k
    cases d with
    | lst ds0 =>
      have k : PX' C W Γ F H σ L .fr Q ((g ρ).bind fun p => extD (lk p.2 i) p.1 p.2 i) := k
      obtain ⟨v, f, h1, hf⟩ := r.get hi e2
      unfold At at hf
      rw [if_pos (show isLD (.lst ds0) = true from rfl)] at hf
      obtain ⟨a, ws, o, fc, rfl, _, _, hH, hN, _, _⟩ := hf
      obtain rfl : o = .lst ws := hN
      refine ⟨.ref a, h1, .inl ⟨rfl, ws, .inl (.inl hH)⟩, ?_⟩
      refine h F H σ ρ L _ hs r ?_
      revert k
      cases g ρ with
      | ex c d => exact fun k => k
      | stuck => exact fun k => k
      | ok p =>
        obtain ⟨dy, ρ'⟩ := p
        intro k F1 H1 y s1 r1
        have k : PX' C W Γ F H σ L .fr Q (extD (lk ρ' i) dy ρ' i) := k
        rcases lk_cases ρ' i with ⟨d, g2, g3⟩ | g3
        · rw [g3] at k
          cases d with
          | lst ds =>
            cases dy with
            | lst es =>
              have k : PX' C W Γ F H σ L .fr Q (if ds.length + es.length ≤ sizeLine then .ok (.non, ρ'.set i (some (.lst (ds ++ es)))) else .stuck) := k
              split at k
              · rename_i hz
                obtain ⟨v, h2, r2⟩ := r1.take hi g2
                rw [h1] at h2
                cases h2
                obtain ⟨b, zs, rfl, z1, z2⟩ := r2.tail.fr
                obtain ⟨fp, nd, hA, ch⟩ := r2.change hΓ (storL_cons rfl hs)
                unfold At at hA
                rw [if_pos (show isLD (.lst ds) = true from rfl)] at hA
                obtain ⟨a2, vs, o, fc, q1, q2, q3, q4, q5, q6, q7⟩ := hA
                cases q1
                obtain rfl : o = .lst vs := q5
                subst q6
                have fc0 : fc = [] := q7.nil_fp fun d v f h => h.1
                subst fc0
                refine ⟨a, b, vs, zs, rfl, rfl, q4, same_rd r2.fit.fh z1, by rw [← q7.length, ← z2.length]; exact hz, ?_⟩
                have r3 := ch a (vs ++ zs) (.lst (ds ++ es)) [a] List.mem_cons_self (List.Sublist.refl _) (by
                  unfold At
                  rw [if_pos (show isLD (.lst (ds ++ es)) = true from rfl)]
                  refine ⟨a, vs ++ zs, _, [], rfl, q2, q3, upd_same, rfl, rfl, ?_⟩
                  exact (q7.imp (R' := At C F1 (L2.upd H1 a (.lst (vs ++ zs))) .fr) fun d v f _ x => x).append (Alls.of_das z2 fun d v h => ⟨rfl, h⟩))
                have r4 := r3.back h1 (.inl hi)
                rw [set_set', set_id hi] at r4
                exact k F1 _ .non s1 (r4.tail.cons0 ⟨rfl, rfl⟩)
              · exact k.elim
            | _ => exact k.elim
          | _ => exact k.elim
        · rw [g3] at k
          exact k.elim
    | _ => exact k.elim
  · rw [e3] at k
    exact k.elim
/-! ### a name in a display that later parts still read: it is moved when all is evaluated -/
theorem entsA_perm : ∀ {ms : List Md} {ds : List DV} {vs : List V} {L L' : List Ent}, L.Perm L' → (entsA ms ds vs L).Perm (entsA ms ds vs L')
  | [], _, _, _, _, p => by unfold entsA; exact p
  | m :: ms, [], _, _, _, p => by unfold entsA; exact p
  | m :: ms, d :: ds, [], _, _, p => by unfold entsA; exact p
  | m :: ms, d :: ds, v :: vs, _, _, p => by
    unfold entsA
    exact entsA_perm (p.cons _)
theorem entsA_out {e : Ent} : ∀ {ms : List Md} {ds : List DV} {vs : List V} {L : List Ent}, (entsA ms ds vs (e :: L)).Perm (e :: entsA ms ds vs L)
  | [], _, _, _ => by unfold entsA; exact List.Perm.refl _
  | m :: ms, [], _, _ => by unfold entsA; exact List.Perm.refl _
  | m :: ms, d :: ds, [], _ => by unfold entsA; exact List.Perm.refl _
  | m :: ms, d :: ds, v :: vs, L => by
    have h := entsA_out (e := e) (ms := ms) (ds := ds) (vs := vs) (L := (m, d, v) :: L)
    have h2 : (entsA ms ds vs ((m, d, v) :: e :: L)).Perm (entsA ms ds vs (e :: (m, d, v) :: L)) := entsA_perm (List.Perm.swap _ _ _)
    unfold entsA
    exact h2.trans h
def xLate (i : Nat) (gr : GAX) : GAX := fun ρ => match lk ρ i with
  | .ok _ => (gr ρ).bind fun q => (lk q.2 i).bind fun d => .ok (d :: q.1, q.2.set i none)
  | _ => .stuck
theorem sxa_late {i : Nat} {tr : TA} {gr : GAX} {ms : List Md} (hi : Γ[i]? = some m) (hr : SXA C W Γ tr gr ms) : SXA C W Γ (tCons (tVar i) tr) (xLate i gr) (m :: ms) := by
  intro F H σ ρ L Q hs r k
  show ∃ v, σ[i]? = some (some v) ∧ tr σ H fun xs H2 => Q (v :: xs) H2
  unfold xLate at k
  rcases lk_cases ρ i with ⟨d0, e2, e3⟩ | e3
  · rw [e3] at k
    have k : PAX' C W Γ F H σ L (m :: ms) Q ((gr ρ).bind fun q => (lk q.2 i).bind fun d => .ok (d :: q.1, q.2.set i none)) := k
    obtain ⟨v, f, h1, _⟩ := r.get hi e2
    refine ⟨v, h1, hr F H σ ρ L _ hs r ?_⟩
    revert k
    cases gr ρ with
    | ex c d => exact fun k => k
    | stuck => exact fun k => k
    | ok q =>
      obtain ⟨ds, ρ2⟩ := q
      intro k F2 H2 vs s2 e1 e2 r2
      have k : PAX' C W Γ F H σ L (m :: ms) Q ((lk ρ2 i).bind fun d => .ok (d :: ds, ρ2.set i none)) := k
      rcases lk_cases ρ2 i with ⟨d, g2, g3⟩ | g3
      · rw [g3] at k
        obtain ⟨w, h2, r3⟩ := r2.take hi g2
        rw [h1] at h2
        cases h2
        exact k F2 H2 (v :: vs) s2 (by rw [List.length_cons, List.length_cons, e1]) (by rw [List.length_cons, List.length_cons, e2]) (by
          show Rep C F2 H2 Γ σ (ρ2.set i none) (entsA ms ds vs ((m, d, v) :: L))
          exact r3.permL (entsA_out.symm))
      · rw [g3] at k
        exact k.elim
  · rw [e3] at k
    exact k.elim
/-! ### list(range(a, b)) -/
def gLRg (ga gb : GE) : GE := fun ρ => (ga ρ).bind fun x => (gb ρ).bind fun y => (dRng2 [x, y]).bind fun ds => if ds.length ≤ sizeLine then .ok (.lst ds) else .stuck
theorem alls_rg {a : Int} : ∀ ks : List Nat, Alls (At C F H .fr) (ks.map fun k : Nat => DV.int (a + (k : Int))) (ks.map fun k : Nat => V.int (a + (k : Int))) []
  | [] => ⟨rfl, rfl⟩
  | k :: ks => ⟨_, _, [], [], rfl, rfl, At.flat rfl rfl, alls_rg ks⟩
theorem se_lrg {ta tb : TE} {ga gb : GE} (ha : SE C W Γ ta ga ma) (hb : SE C W Γ tb gb mb) (qo : (ma.stor || ma.free) = true := by rfl) (qa : ma.rd = true := by rfl) (qb : mb.rd = true := by rfl) : SE C W Γ (tLstRg (tRg2 ta tb)) (gLRg ga gb) (.own .fr) := by
  intro F H σ ρ L Q hL r k
  show ta σ H fun x H1 => tb σ H1 fun y H2 => ∃ i j, x = .int i ∧ y = .int j ∧ (RgOk i j ∧ ∀ q, H2 q = none → Q (.ref q) (L2.upd H2 q (.lst (rgV i j))))
  unfold gLRg at k
  refine se_then ha hL r k fun dx F1 H1 x s1 s2 r1 k1 => ?_
  refine se_then hb (okL_cons qo hL) r1 k1 fun dy F2 H2 y s3 s4 r2 k2 => ?_
  have hx := r2.tail.da qa
  have hy := r2.da qb
  obtain ⟨ds, e1, e2⟩ : ∃ ds, dRng2 [dx, dy] = .ok ds ∧ PE' C W Γ F2 H2 σ ρ L (.own .fr) Q (if ds.length ≤ sizeLine then .ok (.lst ds) else .stuck) := by
    revert k2
    cases e : dRng2 [dx, dy] with
    | ok ds => exact fun k2 => ⟨ds, rfl, k2⟩
    | ex c d =>
      unfold dRng2 at e
      split at e
      · split at e <;> cases e
      · cases e
    | stuck => exact fun k2 => k2.elim
  unfold dRng2 at e1
  split at e1
  · rename_i i j he
    cases he
    split at e1
    · rename_i hz
      cases e1
      split at e2
      · rename_i hl
        obtain ⟨z1, z2⟩ := (Bool.and_eq_true _ _).mp hz
        have b1 := rngOk_ok z1
        have b2 := rngOk_ok z2
        have hn : (rngD i (j - i).toNat).length = (j - i).toNat := by unfold rngD; rw [List.length_map, List.length_range]
        refine ⟨i, j, hx, hy, ⟨b1.1, b1.2, b2.1, b2.2, ?_⟩, fun q np => ?_⟩
        · rw [hn, sizeLine_eq] at hl
          omega
        · exact e2 F2 _ _ (Same.refl _) (same_upd np) (r2.tail.tail.newl np (alls_rg _))
      · exact e2.elim
    · cases e1
  · cases e1
end
end DL
end

/-! text DM2 -/
section
set_option maxRecDepth 100000
set_option maxHeartbeats 4000000
/-! len(set(xs)) of whole numbers, twice met or not; xs[::-1] -/
namespace DL
open PySem PySem.Spec PyProof.Rows L2
def setLen (ns : List Int) : Nat := (PyProof.Rows.firstMet (fun i => ns.getD i 0) ns.length).length
def tLenS (K : PySem.W.Frag) (ta : TE) : TE := fun σ H Q => ta σ H fun x H1 => ∃ (l : Addr) (ns : List Int), x = .ref l ∧ SqL K H1 l (ns.map V.int) ∧ ns.length ≤ 4000 ∧ Q (.int (setLen ns : Nat)) H1
theorem setLen_le (ns : List Int) : setLen ns ≤ ns.length := PyProof.Rows.firstMet_length_le _ _
theorem pe_lenS {X : Cx} {a : Expr} {ta : TE} {p p2 q pos : Pos} (hg : Gl X "len") (hm : X.mg "len" = none) (hg2 : Gl X "set") (hm2 : X.mg "set" = none) (ha : PE X a ta) (hc : X.calm = true := by rfl)
    (na : starEach [a] X.env = (false, eval a X.env) :: starEach [] X.env := by rfl) : PE X (.Call (.Name "len" p) [.Call (.Name "set" p2) [a] [] q] [] pos) (tLenS X.K ta) := by
  refine ⟨fun pins s σ H Q I h => ?_⟩
  refine Call_ (ld_blt I hg hm boot_len ?_)
  refine PyProof.Rows.callWith_builtin1 (PyProof.Rows.args_cons ?_ rfl) rfl rfl
  refine Call_ (ld_blt I hg2 hm2 boot_set ?_)
  refine PyProof.Rows.callWith_type1 (PyProof.Rows.args_cons (thn (ha.run pins s σ H _ I h) fun v s1 ⟨x, H1, I1, r1, q1⟩ => PyProof.Rows.args_nil ?_) na) na rfl
  obtain ⟨l, ns, rfl, hq, hl, q1⟩ := q1
  cases r1
  obtain ⟨its, r, pl, hz⟩ := I1.list hq
  have hlen : its.toArray.size = ns.length := by rw [List.size_toArray, ← r.length, List.length_map]
  have sl := setLen_le ns
  refine call_set_list (I1.ok.hd hc) pl.isList (by simpa using RZ.intsAre_vals r) (by rw [hlen]; unfold scanBound; omega) fun h' tk hS hk => ?_
  refine PyProof.Rows.args_nil ?_
  rw [hlen] at hS
  obtain ⟨o, es, ep, t, ho, hex, hd, _, _, _, hf, hn⟩ := hS
  have hn : _ = setLen ns := hn
  have I2 : Inv X pins σ H1 { s1 with heap := h', toks := tk } := I1.kept fun b o e => hk b o (Heap.lt_size e) e
  exact call_len_set ho hex hd hf (by rw [hn] <;> omega) ⟨.int (setLen ns : Nat), H1, I2.tok _, ⟨_, by rw [hn]⟩, q1⟩
section
variable {C : Cxt} {W : Wx} {F F' H H' : Hp} {Γ Γb Γ' : List Md} {σ : L2.St} {ρ : EnvD} {L : List Ent} {m ma mb mr M : Md} {d : DV} {v : V} {Dn : Ends}
def dLenS : OpA
  | [.lst ds] => match iLst ds with
    | some ns => if ns.length ≤ 4000 then .ok (.int (setLen ns : Nat)) else .stuck
    | none => .stuck
  | _ => .stuck
def gLenS (g : GE) : GE := fun ρ => (g ρ).bind fun d => dLenS [d]
theorem se_lenS {t : TE} {g : GE} (ha : SE C W Γ t g ma) (q : ma.ixok = true := by rfl) : SE C W Γ (tLenS C.K t) (gLenS g) .fr := by
  intro F H σ ρ L Q hL r k
  show t σ H fun x H1 => ∃ (l : Addr) (ns : List Int), x = .ref l ∧ SqL C.K H1 l (ns.map V.int) ∧ ns.length ≤ 4000 ∧ Q (.int (setLen ns : Nat)) H1
  refine se_then ha hL r k fun dx F1 H1 x s1 s2 r1 k1 => ?_
  cases dx with
  | lst ds =>
    obtain ⟨a, vs, h1, h2, h3⟩ := r1.items q
    subst h1
    revert k1
    show PE' C W Γ F1 H1 σ ρ L .fr Q (match iLst ds with | some ns => if ns.length ≤ 4000 then .ok (.int (setLen ns : Nat)) else .stuck | none => .stuck) → _
    cases e : iLst ds with
    | none => exact fun k => k.elim
    | some ns =>
      intro k
      dsimp only at k
      split at k
      · rename_i hz
        have e2 := ints_ok e
        subst e2
        have e3 := h3.iLst
        subst e3
        exact ⟨a, ns, rfl, h2.1, hz, k.flat r1.tail rfl rfl⟩
      · exact k.elim
  | _ => exact k1.elim
theorem Alls.rev {R : DV → V → List Addr → Prop} : ∀ {ds : List DV} {vs : List V}, Alls R ds vs [] → Alls R ds.reverse vs.reverse [] := by
  intro ds
  induction ds with
  | nil =>
    intro vs h
    obtain ⟨rfl, _⟩ := h
    exact ⟨rfl, rfl⟩
  | cons d ds ih =>
    intro vs h
    obtain ⟨w, r, f1, f2, e1, e2, h1, h2⟩ := h
    obtain ⟨rfl, rfl⟩ := List.append_eq_nil_iff.mp e2.symm
    subst e1
    rw [List.reverse_cons, List.reverse_cons]
    exact (ih h2).append ⟨w, [], [], [], rfl, rfl, h1, rfl, rfl⟩
def dRev : DV → Rs DV
  | .lst ds => .ok (.lst ds.reverse)
  | _ => .stuck
def gRev (g : GE) : GE := fun ρ => (g ρ).bind dRev
theorem se_rev {t : TE} {g : GE} (ha : SE C W Γ t g ma) (q : ma.ixok = true := by rfl) (qk : ma.kid = .fr := by rfl) : SE C W Γ (tRevL C.K t) (gRev g) (.own .fr) := by
  intro F H σ ρ L Q hL r k
  show t σ H fun x H1 => ∃ a xs, x = .ref a ∧ SqL C.K H1 a xs ∧ ∀ p, H1 p = none → Q (.ref p) (upd H1 p (.lst xs.reverse))
  refine se_then ha hL r k fun dx F1 H1 x s1 s2 r1 k1 => ?_
  cases dx with
  | lst ds =>
    obtain ⟨a, vs, h1, h2, h3⟩ := r1.items q
    rw [qk] at h3
    exact ⟨a, vs, h1, h2.1, fun p np => k1 F1 _ _ (Same.refl _) (same_upd np) (r1.tail.newl np h3.rev)⟩
  | _ => exact k1.elim
end
/-! the count of a set -/
theorem ded_le : ∀ (xs acc : List Int), (xs.foldl PyProof.Rows.step_dedup acc).length ≤ acc.length + xs.length
  | [], acc => by simp
  | x :: xs, acc => by
    have := ded_le xs (PyProof.Rows.step_dedup acc x)
    have e := PyProof.Rows.step_length acc x
    rw [List.foldl_cons, List.length_cons]
    split at e <;> omega
theorem ded_eq : ∀ (xs acc : List Int), (xs.foldl PyProof.Rows.step_dedup acc).length = acc.length + xs.length → (∀ x ∈ xs, x ∉ acc) ∧ xs.Nodup
  | [], acc, _ => ⟨fun x h => (by cases h), List.nodup_nil⟩
  | x :: xs, acc, h => by
    rw [List.foldl_cons, List.length_cons] at h
    have l := ded_le xs (PyProof.Rows.step_dedup acc x)
    have e := PyProof.Rows.step_length acc x
    split at e
    · omega
    · rename_i hn
      obtain ⟨h1, h2⟩ := ded_eq xs (PyProof.Rows.step_dedup acc x) (by omega)
      have nx : x ∉ acc := fun z => hn (List.any_eq_true.mpr ⟨x, z, beq_self_eq_true x⟩)
      have st : ∀ k, k ∈ acc ∨ k = x → k ∈ PyProof.Rows.step_dedup acc x := fun k hk => by
        have a := PyProof.Rows.step_any acc x k
        have b : (PyProof.Rows.step_dedup acc x).any (· == k) = true := by
          rw [a]
          rcases hk with hk | hk
          · have e3 : (acc.any fun x => x == k) = true := List.any_eq_true.mpr ⟨k, hk, beq_self_eq_true k⟩
            rw [e3]
            rfl
          · rw [decide_eq_true hk, Bool.or_true]
        obtain ⟨y, hy, ey⟩ := List.any_eq_true.mp b
        rw [← eq_of_beq ey]
        exact hy
      refine ⟨fun y hy => ?_, List.nodup_cons.mpr ⟨fun z => h1 x z (st x (.inr rfl)), h2⟩⟩
      rcases List.mem_cons.mp hy with rfl | hy
      · exact nx
      · exact fun z => h1 y hy (st y (.inl z))
theorem setLen_iff {ns : List Int} : setLen ns = ns.length ↔ ns.Nodup := by
  constructor
  · intro h
    unfold setLen PyProof.Rows.firstMet at h
    have e : (List.range ns.length).map (fun i => ns.getD i 0) = ns := by
      refine List.ext_getElem (by simp) fun i h1 h2 => ?_
      rw [List.getElem_map, List.getElem_range, List.getD_eq_getElem?_getD, List.getElem?_eq_getElem h2]
      rfl
    rw [e] at h
    exact (ded_eq ns [] (by simpa using h)).2
  · intro h
    unfold setLen
    rw [RZ.firstMet_nodup h ns.length (Nat.le_refl _), List.take_length]
end DL
end

/-! text DLI -/
section
set_option maxRecDepth 100000
set_option maxHeartbeats 4000000
/-! the head of a law without imports whose program has own exceptions: the root's __init__ is looked at, too -/
namespace DL
open PySem PySem.Spec PyProof.Rows L2
abbrev AlY : Type := He.AlD × IniW
def obsYG (n : Nat) (qs : Qs) (fn : List He.DefD) (x : Str) (g : Addr → Option Obj) : AlY := (obsX qs fn (He.frG g (cStatics :: He.asD g n)), iniW (He.frG g (cStatics :: He.asD g n)) x)
def hookY (n : Nat) (qs : Qs) (fn : List He.DefD) (x : Str) (v : IniW) : PySem.W.Hook where
  α := AlY
  obs := fun s => obsYG n qs fn x s.heap.get?
  val := fun _ => (He.valD fn, v)
  says := fun _ h => ∃ K : PySem.W.Frag, K.In h ∧ SaysX qs fn K ∧ iniW K x = v
  of := fun _ _ e => ⟨_, He.frG_in, congrArg Prod.fst e, congrArg Prod.snd e⟩
  keeps := fun _ _ _ ⟨K, hK, c⟩ k => ⟨K, PySem.W.Frag.In.keeps hK k, c⟩
theorem obsYG_eq {n : Nat} {qs : Qs} {fn : List He.DefD} {x : Str} {v : IniW} {g : Addr → Option Obj} {s : Shared} (h : ∀ a, g a = s.heap.get? a) : obsYG n qs fn x g = (hookY n qs fn x v).obs s := by
  have e : g = s.heap.get? := funext h
  rw [e] <;> rfl
end DL
end

/-! text ML -/
section
set_option maxRecDepth 100000
set_option maxHeartbeats 4000000
/-! plain laws, part 0: what the mirrors compute at ints; loops -/
namespace DL
open PySem L2
theorem sz_eq : sizeLine = 16777216 := by decide
theorem dII_ok {p : Int → Int → Bool} {g : Int → Int → DV} {i j : Int} (h : p i j = true) : dII p g (.int i) (.int j) = .ok (g i j) := if_pos h
theorem opOr_l {f g : OpD} {x y d : DV} (h : f x y = .ok d) : opOr f g x y = .ok d := by
  unfold opOr
  rw [h]
section
variable {i j : Int}
theorem dAdd_i : dAdd (.int i) (.int j) = .ok (.int (i + j)) := rfl
theorem dSub_i : dSub (.int i) (.int j) = .ok (.int (i - j)) := rfl
theorem dMul_i (h : mulOk i j = true) : dMul (.int i) (.int j) = .ok (.int (i * j)) := if_pos h
theorem dLt_i : dLt (.int i) (.int j) = .ok (.bl (decide (i < j))) := rfl
theorem dLe_i : dLe (.int i) (.int j) = .ok (.bl (decide (i ≤ j))) := rfl
theorem dGt_i : dGt (.int i) (.int j) = .ok (.bl (decide (j < i))) := rfl
theorem dGe_i : dGe (.int i) (.int j) = .ok (.bl (decide (j ≤ i))) := rfl
theorem dNeg_i : dNeg (.int i) = .ok (.int (-i)) := rfl
theorem dInt_i : dInt [.int i] = .ok (.int i) := rfl
theorem dMod_i (h : 0 < j) : dMod (.int i) (.int j) = .ok (.int (i % j)) := opOr_l (dII_ok (decide_eq_true h))
theorem dDiv_i (h : 0 < j) (h2 : j.natAbs.log2 < 9000) : dDiv (.int i) (.int j) = .ok (.int (i / j)) := opOr_l (dII_ok (by
  unfold divOk
  rw [decide_eq_true h, decide_eq_true h2]
  rfl))
theorem eqv_i : eqv (.int i) (.int j) = decide (i = j) := by
  unfold eqv py
  first
    | rfl
    | (unfold PyData.eqv; rfl)
theorem dEq_i : dEq (.int i) (.int j) = .ok (.bl (decide (i = j))) := by
  unfold dEq
  rw [if_pos (by rfl), eqv_i]
theorem dNe_i : dNe (.int i) (.int j) = .ok (.bl (!decide (i = j))) := by
  unfold dNe
  rw [if_pos (by rfl), eqv_i]
end
/-! evaluation -/
section
variable {ρ : EnvD} {a b c : GE} {op op' : OpD} {g : GX} {ga gr : GA} {f k : GS} {t u : GT}
@[simp] theorem bind_o {α β : Type} {x : α} {h : α → Rs β} : (Rs.ok x).bind h = h x := rfl
@[simp] theorem bind_s {α β : Type} {h : α → Rs β} : (Rs.stuck : Rs α).bind h = .stuck := rfl
@[simp] theorem bind_e {α β : Type} {x : Str} {d : DV} {h : α → Rs β} : (Rs.ex x d : Rs α).bind h = .ex x d := rfl
@[simp] theorem ev_var {i : Nat} : gVar i ρ = lk ρ i := rfl
@[simp] theorem ev_c {d : DV} : gC d ρ = .ok d := rfl
@[simp] theorem ev_bin : gBin op a b ρ = (a ρ).bind fun x => (b ρ).bind fun y => op x y := rfl
@[simp] theorem ev_un {h : DV → Rs DV} : gUn h a ρ = (a ρ).bind h := rfl
@[simp] theorem ev_cb {o : OpA} : gCB o ga ρ = (ga ρ).bind o := rfl
@[simp] theorem ev_nil : aNil ρ = .ok [] := rfl
@[simp] theorem ev_cons : aCons a gr ρ = (a ρ).bind fun x => (gr ρ).bind fun xs => .ok (x :: xs) := rfl
@[simp] theorem ev_pure : gPure a ρ = (a ρ).bind fun d => .ok (d, ρ) := rfl
@[simp] theorem ev_b : gB a ρ = (a ρ).bind asB := rfl
@[simp] theorem ev_asB {z : Bool} : asB (.bl z) = .ok z := rfl
@[simp] theorem ev_next : gNext ρ = .nx ρ := rfl
@[simp] theorem ev_if : gIf t a b ρ = (t ρ).bind fun z => if z = true then a ρ else b ρ := rfl
@[simp] theorem ev_ifT {v : GT} : gIfT t u v ρ = (t ρ).bind fun z => if z = true then u ρ else v ρ := rfl
@[simp] theorem ev_not : gNot t ρ = (t ρ).bind fun z => .ok (!z) := rfl
@[simp] theorem ev_andV : gAndV a b ρ = ((a ρ).bind asB).bind fun z => if z = true then b ρ else .ok (.bl false) := rfl
@[simp] theorem ev_orV : gOrV a b ρ = ((a ρ).bind asB).bind fun z => if z = true then .ok (.bl true) else b ρ := rfl
@[simp] theorem ev_notV : gNotV a ρ = ((a ρ).bind asB).bind fun z => .ok (.bl (!z)) := rfl
@[simp] theorem ev_tup : eTup ga ρ = (ga ρ).bind fun ds => if ds.length ≤ sizeLine then .ok (.tup ds) else .stuck := rfl
@[simp] theorem ev_lst : eLst ga ρ = (ga ρ).bind fun ds => if ds.length ≤ sizeLine then .ok (.lst ds) else .stuck := rfl
@[simp] theorem lk_0 {d : DV} {r : EnvD} : lk (some d :: r) 0 = .ok d := rfl
@[simp] theorem lk_s {x : Option DV} {r : EnvD} {i : Nat} : lk (x :: r) (i + 1) = lk r i := rfl
theorem ev_seq {ρ' : EnvD} (h : f ρ = .nx ρ') : gSeq f k ρ = k ρ' := by
  unfold gSeq
  rw [h]
theorem ev_seqR {ρ' : EnvD} {d : DV} (h : f ρ = .rt d ρ') : gSeq f k ρ = .rt d ρ' := by
  unfold gSeq
  rw [h]
theorem ev_seqE {x : Str} {d : DV} (h : f ρ = .ex x d) : gSeq f k ρ = .ex x d := by
  unfold gSeq
  rw [h]
theorem ev_ifS {z : Bool} (h : t ρ = .ok z) : gIfS t f k ρ = if z = true then f ρ else k ρ := by
  unfold gIfS
  rw [h]
theorem ev_asg {i : Nat} {d : DV} {ρ' : EnvD} (h : g ρ = .ok (d, ρ')) : gAsg g (gtName i) ρ = .nx (ρ'.set i (some d)) := by
  unfold gAsg gtName
  rw [h]
theorem ev_ret {d : DV} {ρ' : EnvD} (h : g ρ = .ok (d, ρ')) : gRet g ρ = .rt d ρ' := by
  unfold gRet
  rw [h]
end
/-- a loop over a range, by an invariant of the number of turns done -/
theorem forG_rng {tg : GG} {b : GS} (I : Nat → EnvD → Prop) (hi : ∀ (i : Nat) (ρ : EnvD), I i ρ → ∃ ρ1 ρ2, tg (.int ((0 : Int) + (i : Int))) ρ = .ok ρ1 ∧ b ρ1 = .nx ρ2 ∧ I (i + 1) ρ2) :
    ∀ (n i : Nat) (ρ : EnvD), I i ρ → ∃ ρ', forG tg b ((List.range' i n).map fun k : Nat => DV.int ((0 : Int) + (k : Int))) ρ = .nx ρ' ∧ I (i + n) ρ'
  | 0, i, ρ, h => ⟨ρ, rfl, h⟩
  | n + 1, i, ρ, h => by
    obtain ⟨ρ1, ρ2, e1, e2, h2⟩ := hi i ρ h
    obtain ⟨ρ', e3, h3⟩ := forG_rng I hi n (i + 1) ρ2 h2
    refine ⟨ρ', ?_, by rw [show i + (n + 1) = i + 1 + n by omega]; exact h3⟩
    rw [List.range'_succ, List.map_cons]
    unfold forG
    rw [e1]
    dsimp only
    rw [e2]
    exact e3
theorem rngD_eq (n : Nat) : rngD 0 n = (List.range' 0 n).map fun k : Nat => DV.int ((0 : Int) + (k : Int)) := by
  unfold rngD
  rw [List.range_eq_range']
end DL
end

/-! text ML1 -/
section
set_option maxRecDepth 100000
set_option maxHeartbeats 4000000
/-! plain laws, part 1: lists of ints -/
namespace DL
open PySem
abbrev di (xs : List Int) : DV := .lst (xs.map DV.int)
theorem lcLoop_map {h : DV → Rs (Option DV)} {f : Int → Int} : ∀ {xs : List Int}, (∀ x ∈ xs, h (.int x) = .ok (some (.int (f x)))) → lcLoop h (xs.map DV.int) = .ok ((xs.map f).map DV.int)
  | [], _ => rfl
  | x :: xs, k => by
    rw [List.map_cons, List.map_cons, List.map_cons]
    unfold lcLoop
    rw [k x List.mem_cons_self]
    dsimp only [Rs.bind]
    rw [lcLoop_map (xs := xs) fun y hy => k y (List.mem_cons_of_mem _ hy)]
    rfl
theorem ixN_nat {n k : Nat} (h : k < n) : L2.ixN n (k : Int) = some k := by
  unfold L2.ixN
  simp
  omega
theorem dIx_i {xs : List Int} {k : Nat} (h : k < xs.length) : dIx (di xs) (.int (k : Int)) = .ok (.int xs[k]) := by
  unfold dIx L2.atI
  simp only [List.length_map]
  rw [ixN_nat h]
  simp [ofO, h]
theorem setD_i {xs : List Int} {k : Nat} {y : Int} (h : k < xs.length) : setD (di xs) (.int (k : Int)) (.int y) = .ok (di (xs.set k y)) := by
  unfold setD
  simp only [List.length_map]
  rw [ixN_nat h]
  simp [List.map_set]
theorem dLen_i {xs : List Int} : dLen [di xs] = .ok (.int xs.length) := by
  simp [dLen]
theorem imms_i (xs : List Int) : imms (xs.map DV.int) = true := by
  induction xs with
  | nil => rfl
  | cons x xs ih => exact (Bool.and_eq_true _ _).mpr ⟨rfl, ih⟩
theorem cut_front {xs : List DV} {n : Nat} : cutD xs none (some (n : Int)) = xs.take n := by
  unfold cutD
  rw [HT.sIx_none, HT.sIx_nat, List.drop_zero, Nat.sub_zero]
  by_cases h : n ≤ xs.length
  · rw [Nat.min_eq_left h]
  · rw [Nat.min_eq_right (by omega), List.take_length, List.take_of_length_le (by omega)]
theorem cut_last {xs : List DV} : cutD xs none (some (-1)) = xs.take (xs.length - 1) := by
  have e : HT.sIx xs.length xs.length (some (-1)) = xs.length - 1 := by
    unfold HT.sIx
    simp
    omega
  unfold cutD
  rw [e, HT.sIx_none, List.drop_zero, Nat.sub_zero]
end DL
end

/-! text ML3 -/
section
set_option maxRecDepth 100000
set_option maxHeartbeats 4000000
/-! data that repr shows and == compares, by its parts; in a namespace of its own -/
namespace SH
open PySem DL
theorem ok_mem {x : Str} : PyData.strOk x = true ↔ ∀ c ∈ x.cps.toList, c < 0x110000 := by
  unfold PyData.strOk
  rw [← Array.all_toList, List.all_eq_true]
  exact ⟨fun h c hc => of_decide_eq_true (h c hc), fun h c hc => decide_eq_true (h c hc)⟩
theorem ok_app {x y : Str} (h1 : PyData.strOk x = true) (h2 : PyData.strOk y = true) : PyData.strOk (x ++ y) = true := by
  rw [ok_mem] at h1 h2 ⊢
  intro c hc
  have e : (x ++ y).cps.toList = x.cps.toList ++ y.cps.toList := by
    show (x.cps ++ y.cps).toList = _
    rw [Array.toList_append]
  rw [e] at hc
  rcases List.mem_append.mp hc with z | z
  · exact h1 c z
  · exact h2 c z
theorem ok_int {i : Int} : PyData.strOk (PyData.shown (.int i)) = true := by
  rw [ok_mem]
  intro c hc
  refine Classical.byContradiction fun z => ?_
  exact PyProof.Rows.shown_int_free' (k := c) ⟨by omega, by omega⟩ i hc
theorem ok_from : ∀ {ts : List Str} {k : Nat} {acc : Str}, PyData.strOk acc = true → (∀ t ∈ ts, PyData.strOk t = true) → PyData.strOk (textFrom k acc ts) = true
  | [], k, acc, h, _ => h
  | t :: ts, k, acc, h, g => by
    show PyData.strOk (textFrom (k + 1) (acc ++ ((if k > 0 then ", " else "" : String) : Str) ++ t) ts) = true
    refine ok_from (ok_app (ok_app h ?_) (g t List.mem_cons_self)) fun u hu => g u (List.mem_cons_of_mem _ hu)
    split <;> decide +kernel
theorem ok_tup {ts : List Str} (h : ∀ t ∈ ts, PyData.strOk t = true) : PyData.strOk (tupleText ts) = true := by
  have j : ∀ {ts : List Str}, (∀ t ∈ ts, PyData.strOk t = true) → PyData.strOk (Str.join ", " ts) = true := by
    intro ts h
    induction ts with
    | nil => decide +kernel
    | cons t ts ih =>
      cases ts with
      | nil => exact h t List.mem_cons_self
      | cons u us =>
        show PyData.strOk (t ++ ", " ++ Str.join ", " (u :: us)) = true
        exact ok_app (ok_app (h t List.mem_cons_self) (by decide +kernel)) (ih fun v hv => h v (List.mem_cons_of_mem _ hv))
  unfold tupleText
  refine ok_app (ok_app (by decide +kernel) (j h)) ?_
  split <;> decide +kernel
/-- good data: k its depth at most, w a bound of its weight -/
structure Shw (k w : Nat) (d : DV) : Prop where
  ls : (py d).leavesShort 13 = true
  wt : (py d).weight ≤ w
  sh : (py d).showable = true
  ok : PyData.strOk (py d).shown = true
  eq : ∀ n, k ≤ n → eqok d n = true
  rf : PyData.eqv (py d) (py d) = true
theorem Shw.mono {k w k' w' : Nat} {d : DV} (h : Shw k w d) (hk : k ≤ k') (hw : w ≤ w') : Shw k' w' d := ⟨h.ls, Nat.le_trans h.wt hw, h.sh, h.ok, fun n hn => h.eq n (Nat.le_trans hk hn), h.rf⟩
theorem int {i : Int} (h : i.natAbs ≤ 10000000) : Shw 0 25 (.int i) := by
  have s1 := PyData.shown_int_le (i := i) (by omega)
  have l1 : i.natAbs.log2 < 24 := by
    by_cases z : i.natAbs = 0
    · rw [z]; decide
    · exact (Nat.log2_lt z).mpr (Nat.lt_of_le_of_lt h (by decide))
  refine ⟨?_, ?_, ?_, ok_int, fun n _ => rfl, ?_⟩
  · simp [py, PyData.leavesShort, s1]
  · simp [py, PyData.weight]
    split <;> omega
  · simp [py, PyData.showable]
    omega
  · simp [py, PyData.eqv]
theorem non : Shw 0 0 .non := ⟨rfl, Nat.le_refl _, rfl, by decide +kernel, fun n _ => rfl, rfl⟩
theorem bl {b : Bool} : Shw 0 0 (.bl b) := by cases b <;> exact ⟨rfl, Nat.le_refl _, rfl, by decide +kernel, fun n _ => rfl, rfl⟩
theorem alls {k w : Nat} : ∀ {ds : List DV}, (∀ d ∈ ds, Shw k w d) → PyData.leavesShortAll 13 (pys ds) = true ∧ PyData.weightAll (pys ds) ≤ (w + 1) * ds.length ∧ PyData.showableAll (pys ds) = true ∧ (∀ t ∈ PyData.shownAll (pys ds), PyData.strOk t = true) ∧ (∀ n, k ≤ n → eqoks ds n = true) ∧ PyData.eqvAll (pys ds) (pys ds) = true
  | [], _ => by simp [pys, PyData.leavesShortAll, PyData.weightAll, PyData.showableAll, PyData.shownAll, eqoks, PyData.eqvAll]
  | d :: ds, h => by
    have a := h d List.mem_cons_self
    obtain ⟨b1, b2, b3, b4, b5, b6⟩ := alls (ds := ds) fun x hx => h x (List.mem_cons_of_mem _ hx)
    have e : pys (d :: ds) = py d :: pys ds := rfl
    rw [e]
    refine ⟨?_, ?_, ?_, ?_, fun n hn => ?_, ?_⟩
    · unfold PyData.leavesShortAll
      rw [a.ls, b1]
      rfl
    · unfold PyData.weightAll
      rw [List.length_cons, Nat.mul_succ]
      have := a.wt
      omega
    · unfold PyData.showableAll
      rw [a.sh, b3]
      rfl
    · intro t ht
      unfold PyData.shownAll at ht
      rcases List.mem_cons.mp ht with z | z
      · rw [z]; exact a.ok
      · exact b4 t z
    · show (eqok d n && eqoks ds n) = true
      rw [a.eq n hn, b5 n hn]
      rfl
    · unfold PyData.eqvAll
      rw [a.rf, b6]
      rfl
theorem lst {k w : Nat} {ds : List DV} (h : ∀ d ∈ ds, Shw k w d) : Shw (k + 1) ((w + 1) * ds.length) (.lst ds) := by
  obtain ⟨b1, b2, b3, b4, b5, b6⟩ := alls h
  refine ⟨?_, ?_, ?_, ?_, fun n hn => ?_, ?_⟩
  · show PyData.leavesShort 13 (.list (pys ds)) = true
    unfold PyData.leavesShort
    exact b1
  · show PyData.weight (.list (pys ds)) ≤ _
    unfold PyData.weight
    exact b2
  · show PyData.showable (.list (pys ds)) = true
    unfold PyData.showable
    exact b3
  · have e : (py (.lst ds)).shown = textFrom 0 "[" (PyData.shownAll (pys ds)) ++ "]" := by
      show PyData.shown (.list (pys ds)) = _
      unfold PyData.shown
      rfl
    rw [e]
    exact ok_app (ok_from (by decide +kernel) b4) (by decide +kernel)
  · obtain ⟨m, rfl⟩ : ∃ m, n = m + 1 := ⟨n - 1, by omega⟩
    exact b5 m (by omega)
  · show PyData.eqv (.list (pys ds)) (.list (pys ds)) = true
    unfold PyData.eqv
    exact b6
theorem tup {k w : Nat} {ds : List DV} (h : ∀ d ∈ ds, Shw k w d) : Shw (k + 1) ((w + 1) * ds.length) (.tup ds) := by
  obtain ⟨b1, b2, b3, b4, b5, b6⟩ := alls h
  refine ⟨?_, ?_, ?_, ?_, fun n hn => ?_, ?_⟩
  · show PyData.leavesShort 13 (.tuple (pys ds)) = true
    unfold PyData.leavesShort
    exact b1
  · show PyData.weight (.tuple (pys ds)) ≤ _
    unfold PyData.weight
    exact b2
  · show PyData.showable (.tuple (pys ds)) = true
    unfold PyData.showable
    exact b3
  · have e : (py (.tup ds)).shown = tupleText (PyData.shownAll (pys ds)) := by
      show PyData.shown (.tuple (pys ds)) = _
      unfold PyData.shown
      rfl
    rw [e]
    exact ok_tup b4
  · obtain ⟨m, rfl⟩ : ∃ m, n = m + 1 := ⟨n - 1, by omega⟩
    exact b5 m (by omega)
  · show PyData.eqv (.tuple (pys ds)) (.tuple (pys ds)) = true
    unfold PyData.eqv
    exact b6
theorem map {α : Type} {k w : Nat} {g : α → DV} {xs : List α} (h : ∀ x ∈ xs, Shw k w (g x)) : Shw (k + 1) ((w + 1) * xs.length) (.lst (xs.map g)) := by
  have z := lst (ds := xs.map g) fun d hd => by
    obtain ⟨x, hx, rfl⟩ := List.mem_map.mp hd
    exact h x hx
  rw [List.length_map] at z
  exact z
theorem repr {k w : Nat} {d : DV} (h : Shw k w d) (hs : isSq d = true) (hk : k ≤ 20) (hw : w ≤ 1048576) : dRepr [d] = .ok (.str (py d).shown) := by
  have f := PyData.shown_fits (B := 13) (by decide) (by decide) h.ls (Nat.le_trans h.wt (Nat.le_trans hw (by decide)))
  unfold dRepr
  dsimp only
  rw [if_pos]
  rw [hs, h.eq 20 hk, h.sh, decide_eq_true f]
  rfl
theorem ne_self {k w : Nat} {d : DV} (h : Shw k w d) (hk : k ≤ 20) : dNe d d = .ok (.bl false) := by
  unfold dNe
  rw [h.eq 20 hk, if_pos (by rfl)]
  unfold eqv
  rw [h.rf]
  rfl
theorem eq_self {k w : Nat} {d : DV} (h : Shw k w d) (hk : k ≤ 20) : dEq d d = .ok (.bl true) := by
  unfold dEq
  rw [h.eq 20 hk, if_pos (by rfl)]
  unfold eqv
  rw [h.rf]
theorem ne_str {x : Str} (h : PyData.strOk x = true) : dNe (.str x) (.str x) = .ok (.bl false) := by
  unfold dNe
  rw [if_pos (by show (PyData.strOk x && PyData.strOk x) = true; rw [h]; rfl)]
  simp [eqv, py, PyData.eqv]
end SH
end

/-! text Mir -/
section
set_option maxRecDepth 100000
set_option maxHeartbeats 8000000
namespace M
open PySem PySem.Spec PyProof.Rows L2 DL
abbrev N_fraction : List Str := ["numerator", "denominator", "shared"]
def b_fraction : GS := (gSeq (gIfS (gB (gBin dEq (gVar 1) (gC (.int 0)))) gNever gNext) (gSeq (gIfS (gB (gBin dLt (gVar 1) (gC (.int 0)))) (gPar 0 1 (aCons (gUn dNeg (gVar 0)) (aCons (gUn dNeg (gVar 1)) aNil))) gNext) (gSeq (gAsg (gPure (gCB dGcd (aCons (gVar 0) (aCons (gVar 1) aNil)))) (gtName 2)) (gRet (gPure (eTup (aCons (gBin dDiv (gVar 0) (gVar 2)) (aCons (gBin dDiv (gVar 1) (gVar 2)) aNil))))))))
def m_fraction : List DV → Rs DV := runB b_fraction 3
abbrev N_plus : List Str := ["first", "second"]
def b_plus : GS := (gRet (gPure (gCB m_fraction (aCons (gBin dAdd (gBin dMul (gBin dIx (gVar 0) (gC (.int 0))) (gBin dIx (gVar 1) (gC (.int 1)))) (gBin dMul (gBin dIx (gVar 1) (gC (.int 0))) (gBin dIx (gVar 0) (gC (.int 1))))) (aCons (gBin dMul (gBin dIx (gVar 0) (gC (.int 1))) (gBin dIx (gVar 1) (gC (.int 1)))) aNil)))))
def m_plus : List DV → Rs DV := runB b_plus 2
abbrev N_times : List Str := ["first", "second"]
def b_times : GS := (gRet (gPure (gCB m_fraction (aCons (gBin dMul (gBin dIx (gVar 0) (gC (.int 0))) (gBin dIx (gVar 1) (gC (.int 0)))) (aCons (gBin dMul (gBin dIx (gVar 0) (gC (.int 1))) (gBin dIx (gVar 1) (gC (.int 1)))) aNil)))))
def m_times : List DV → Rs DV := runB b_times 2
abbrev N_over : List Str := ["first", "second"]
def b_over : GS := (gRet (gPure (gCB m_fraction (aCons (gBin dMul (gBin dIx (gVar 0) (gC (.int 0))) (gBin dIx (gVar 1) (gC (.int 1)))) (aCons (gBin dMul (gBin dIx (gVar 0) (gC (.int 1))) (gBin dIx (gVar 1) (gC (.int 0)))) aNil)))))
def m_over : List DV → Rs DV := runB b_over 2
abbrev N_is_less : List Str := ["first", "second"]
def b_is_less : GS := (gRet (gPure (gBin dLt (gBin dMul (gBin dIx (gVar 0) (gC (.int 0))) (gBin dIx (gVar 1) (gC (.int 1)))) (gBin dMul (gBin dIx (gVar 1) (gC (.int 0))) (gBin dIx (gVar 0) (gC (.int 1)))))))
def m_is_less : List DV → Rs DV := runB b_is_less 2
abbrev N_added : List Str := ["fractions", "total", "pair"]
def b_added : GS := (gSeq (gAsg (gPure (gC (.tup [(.int 0), (.int 1)]))) (gtName 1)) (gSeq (gFor (gSeqI (gVar 0)) (gtName 2) (gAsg (gPure (gCB m_plus (aCons (gVar 1) (aCons (gVar 2) aNil)))) (gtName 1))) (gRet (gPure (gVar 1)))))
def m_added : List DV → Rs DV := runB b_added 3
abbrev N_check_sets : List Str := ["size", "sets", "k", "members", "price", "at"]
def b_check_sets : GS := (gSeq (gIfS (gNot (gB (gChain dLe dLe (gC (.int 1)) (gVar 0) (gC (.int 40))))) gNever gNext) (gSeq (gIfS (gNot (gB (gChain dLe dLe (gC (.int 1)) (gCB dLen (aCons (gVar 1) aNil)) (gC (.int 40))))) gNever gNext) (gFor (gRng1 (aCons (gCB dLen (aCons (gVar 1) aNil)) aNil)) (gtName 2) (gSeq (gAsg (gPure (gBin dIx (gVar 1) (gVar 2))) (gtTup [3, 4])) (gSeq (gFor (gRng1 (aCons (gCB dLen (aCons (gVar 3) aNil)) aNil)) (gtName 5) (gIfS (gOr (gNot (gB (gChain dLe dLt (gC (.int 0)) (gBin dIx (gVar 3) (gVar 5)) (gVar 0)))) (gAnd (gB (gBin dGt (gVar 5) (gC (.int 0)))) (gB (gBin dLe (gBin dIx (gVar 3) (gVar 5)) (gBin dIx (gVar 3) (gBin dSub (gVar 5) (gC (.int 1)))))))) gNever gNext)) (gIfS (gNot (gB (gChain dLe dLe (gC (.int 0)) (gVar 4) (gC (.int 1048576))))) gNever gNext))))))
def m_check_sets : List DV → Rs DV := runB b_check_sets 6
abbrev N_next_set : List Str := ["sets", "covered", "best", "k", "members", "price", "many", "element"]
def b_next_set : GS := (gSeq (gAsg (gPure (gC .non)) (gtName 2)) (gSeq (gFor (gRng1 (aCons (gCB dLen (aCons (gVar 0) aNil)) aNil)) (gtName 3) (gSeq (gAsg (gPure (gBin dIx (gVar 0) (gVar 3))) (gtTup [4, 5])) (gSeq (gAsg (gPure (gCB dLen (aCons (gLc (gSeqI (gVar 4)) (gtName 7) (gB (gBin dNotIn (gVar 7) (gVar 1))) (gVar 7) [7]) aNil))) (gtName 6)) (gIfS (gAnd (gB (gBin dGt (gVar 6) (gC (.int 0)))) (gOr (gB (gBin dIsN (gVar 2) (gC .non))) (gB (gCB m_is_less (aCons (gCB m_fraction (aCons (gVar 5) (aCons (gVar 6) aNil))) (aCons (gBin dIx (gVar 2) (gC (.int 0))) aNil)))))) (gAsg (gPure (eTup (aCons (gCB m_fraction (aCons (gVar 5) (aCons (gVar 6) aNil))) (aCons (gVar 3) aNil)))) (gtName 2)) gNext)))) (gRet (gPure (gIf (gB (gBin dIsN (gVar 2) (gC .non))) (gC .non) (gBin dIx (gVar 2) (gC (.int 1))))))))
def m_next_set : List DV → Rs DV := runB b_next_set 8
abbrev N_quick_cover : List Str := ["size", "sets", "shares", "covered", "taken", "k", "fresh", "element"]
def b_quick_cover : GS := (gSeq (gDrop (gPure (gCB m_check_sets (aCons (gVar 0) (aCons (gVar 1) aNil))))) (gSeq (gAsg (gPure (gBin dRep (eLst (aCons (gC .non) aNil)) (gVar 0))) (gtName 2)) (gSeq (gAsg (gPure (eLst aNil)) (gtName 3)) (gSeq (gAsg (gPure (eLst aNil)) (gtName 4)) (gSeq (gWhile (gB (gBin dLt (gCB dLen (aCons (gVar 3) aNil)) (gVar 0))) (gSeq (gAsg (gPure (gCB m_next_set (aCons (gVar 1) (aCons (gVar 3) aNil)))) (gtName 5)) (gSeq (gIfS (gB (gBin dIsN (gVar 5) (gC .non))) (gRet (gPure (gC .non))) gNext) (gSeq (gAsg (gPure (gLc (gSeqI (gBin dIx (gBin dIx (gVar 1) (gVar 5)) (gC (.int 0)))) (gtName 7) (gB (gBin dNotIn (gVar 7) (gVar 3))) (gVar 7) [7])) (gtName 6)) (gSeq (gFor (gSeqI (gVar 6)) (gtName 7) (gSetI 2 (gVar 7) (gPure (gCB m_fraction (aCons (gBin dIx (gBin dIx (gVar 1) (gVar 5)) (gC (.int 1))) (aCons (gCB dLen (aCons (gVar 6) aNil)) aNil)))))) (gSeq (gDrop (gExt 3 (gPure (gVar 6)))) (gDrop (gApp 4 (gPure (gVar 5)))))))))) (gRet (gPure (eTup (aCons (gVar 4) (aCons (gCB dSum (aCons (gLc (gSeqI (gVar 4)) (gtName 5) gYes (gBin dIx (gBin dIx (gVar 1) (gVar 5)) (gC (.int 1))) [5]) aNil)) (aCons (gVar 2) aNil)))))))))))
def m_quick_cover : List DV → Rs DV := runB b_quick_cover 8
abbrev N_harmonic : List Str := ["many", "part"]
def b_harmonic : GS := (gRet (gPure (gCB m_added (aCons (gLc (gRng2 (aCons (gC (.int 1)) (aCons (gBin dAdd (gVar 0) (gC (.int 1))) aNil))) (gtName 1) gYes (gCB m_fraction (aCons (gC (.int 1)) (aCons (gVar 1) aNil))) [1]) aNil))))
def m_harmonic : List DV → Rs DV := runB b_harmonic 2
abbrev N_cover_factor : List Str := ["size", "sets", "members", "_"]
def b_cover_factor : GS := (gSeq (gDrop (gPure (gCB m_check_sets (aCons (gVar 0) (aCons (gVar 1) aNil))))) (gRet (gPure (gCB m_harmonic (aCons (gCB dMax (aCons (gLc (gSeqI (gVar 1)) (gtTup [2, 3]) gYes (gCB dLen (aCons (gVar 2) aNil)) [2, 3]) aNil)) aNil)))))
def m_cover_factor : List DV → Rs DV := runB b_cover_factor 4
abbrev N_check_shares : List Str := ["size", "sets", "taken", "shares", "k", "element", "members", "price", "paid"]
def b_check_shares : GS := (gSeq (gDrop (gPure (gCB m_check_sets (aCons (gVar 0) (aCons (gVar 1) aNil))))) (gSeq (gIfS (gOr (gB (gBin dNe (gCB dLen (aCons (gVar 3) aNil)) (gVar 0))) (gOr (gB (gBin dNe (gLenS (gVar 2)) (gCB dLen (aCons (gVar 2) aNil)))) (gNot (gB (gCB dAll (aCons (gLc (gSeqI (gVar 2)) (gtName 4) gYes (gChain dLe dLt (gC (.int 0)) (gVar 4) (gCB dLen (aCons (gVar 1) aNil))) [4]) aNil)))))) (gRet (gPure (gC (.bl false)))) gNext) (gSeq (gFor (gRng1 (aCons (gVar 0) aNil)) (gtName 5) (gIfS (gOr (gB (gBin dLt (gBin dIx (gBin dIx (gVar 3) (gVar 5)) (gC (.int 0))) (gC (.int 0)))) (gNot (gB (gCB dAny (aCons (gLc (gSeqI (gVar 2)) (gtName 4) gYes (gBin dIn (gVar 5) (gBin dIx (gBin dIx (gVar 1) (gVar 4)) (gC (.int 0)))) [4]) aNil))))) (gRet (gPure (gC (.bl false)))) gNext)) (gSeq (gFor (gSeqI (gVar 1)) (gtTup [6, 7]) (gSeq (gAsg (gPure (gCB m_added (aCons (gLc (gSeqI (gVar 6)) (gtName 5) gYes (gBin dIx (gVar 3) (gVar 5)) [5]) aNil))) (gtName 8)) (gIfS (gB (gCB m_is_less (aCons (gCB m_times (aCons (gCB m_harmonic (aCons (gCB dLen (aCons (gVar 6) aNil)) aNil)) (aCons (eTup (aCons (gVar 7) (aCons (gC (.int 1)) aNil))) aNil))) (aCons (gVar 8) aNil)))) (gRet (gPure (gC (.bl false)))) gNext))) (gRet (gPure (gBin dEq (gCB m_added (aCons (gVar 3) aNil)) (eTup (aCons (gCB dSum (aCons (gLc (gSeqI (gVar 2)) (gtName 4) gYes (gBin dIx (gBin dIx (gVar 1) (gVar 4)) (gC (.int 1))) [4]) aNil)) (aCons (gC (.int 1)) aNil))))))))))
def m_check_shares : List DV → Rs DV := runB b_check_shares 9
abbrev N_cover_bound : List Str := ["size", "sets", "shares", "factor"]
def b_cover_bound : GS := (gSeq (gDrop (gPure (gCB m_check_sets (aCons (gVar 0) (aCons (gVar 1) aNil))))) (gSeq (gAsg (gPure (gCB m_cover_factor (aCons (gVar 0) (aCons (gVar 1) aNil)))) (gtName 3)) (gSeq (gIfS (gB (gBin dEq (gVar 3) (gC (.tup [(.int 0), (.int 1)])))) (gRet (gPure (gC (.tup [(.int 0), (.int 1)])))) gNext) (gRet (gPure (gCB m_over (aCons (gCB m_added (aCons (gVar 2) aNil)) (aCons (gVar 3) aNil))))))))
def m_cover_bound : List DV → Rs DV := runB b_cover_bound 4
abbrev N__law_numbers : List Str := ["_law_script", "_law_many", "_law_rest", "_law_cell", "_law_mixed", "_law_numbers_here", "_law_k", "_law_at"]
def b__law_numbers : GS := (gSeq (gAsg (gPure (gBin dAdd (gLc (gSeqI (gSl (gVar 0) gNoPart (gPart (gC (.int 63))))) (gtName 3) gYes (gCB dAbs (aCons (gVar 3) aNil)) [3]) (eLst (aCons (gC (.int 0)) aNil)))) (gtName 2)) (gSeq (gIfS (gB (gBin dGt (gCB dLen (aCons (gVar 0) aNil)) (gC (.int 0)))) (gAsg (gPure (gSl (gVar 2) gNoPart (gPart (gUn dNeg (gC (.int 1)))))) (gtName 2)) gNext) (gSeq (gAsg (gPure (gLc (gSeqI (gVar 2)) (gtName 3) gYes (gBin dMod (gCB dInt (aCons (gBin dAdd (gBin dMul (gVar 3) (gC (.int 48271))) (gC (.int 11))) aNil)) (gC (.int 2147483647))) [3])) (gtName 4)) (gSeq (gAsg (gPure (eLst aNil)) (gtName 5)) (gSeq (gFor (gRng1 (aCons (gVar 1) aNil)) (gtName 6) (gSeq (gAsg (gPure (gBin dMod (gCB dInt (aCons (gVar 6) aNil)) (gCB dLen (aCons (gVar 2) aNil)))) (gtName 7)) (gIfS (gB (gBin dGe (gBin dIx (gVar 2) (gVar 7)) (gBin dPow (gC (.int 10)) (gC (.int 18))))) (gSeq (gDrop (gApp 5 (gPure (gBin dMod (gCB dInt (aCons (gBin dIx (gVar 2) (gVar 7)) aNil)) (gC (.int 65536)))))) (gSetI 2 (gVar 7) (gPure (gBin dDiv (gBin dIx (gVar 2) (gVar 7)) (gC (.int 65536)))))) (gSeq (gSetI 4 (gVar 7) (gPure (gBin dMod (gCB dInt (aCons (gBin dAdd (gBin dAdd (gBin dMul (gBin dIx (gVar 4) (gVar 7)) (gC (.int 16807))) (gC (.int 12345))) (gBin dMul (gC (.int 7919)) (gVar 6))) aNil)) (gC (.int 2147483647))))) (gDrop (gApp 5 (gPure (gBin dMod (gCB dInt (aCons (gBin dAdd (gBin dIx (gVar 2) (gVar 7)) (gBin dDiv (gBin dIx (gVar 4) (gVar 7)) (gC (.int 5)))) aNil)) (gC (.int 65536)))))))))) (gRet (gMove 5)))))))
def m__law_numbers : List DV → Rs DV := runB b__law_numbers 8
abbrev N__law_lowest : List Str := ["_law_p", "_law_q", "_law_one", "_law_two", "_law_turn"]
def b__law_lowest : GS := (gSeq (gIfS (gB (gBin dLt (gVar 1) (gC (.int 0)))) (gPar 0 1 (aCons (gUn dNeg (gVar 0)) (aCons (gUn dNeg (gVar 1)) aNil))) gNext) (gSeq (gPar 2 3 (aCons (gCB dAbs (aCons (gVar 0) aNil)) (aCons (gVar 1) aNil))) (gSeq (gFor (gRng1 (aCons (gC (.int 4000)) aNil)) (gtName 4) (gSeq (gIfS (gB (gBin dEq (gVar 3) (gC (.int 0)))) gBrk gNext) (gPar 2 3 (aCons (gVar 3) (aCons (gBin dMod (gCB dInt (aCons (gVar 2) aNil)) (gVar 3)) aNil))))) (gRet (gPure (eTup (aCons (gBin dDiv (gVar 0) (gVar 2)) (aCons (gBin dDiv (gVar 1) (gVar 2)) aNil))))))))
def m__law_lowest : List DV → Rs DV := runB b__law_lowest 5
abbrev N__law_plus : List Str := ["_law_first", "_law_second"]
def b__law_plus : GS := (gRet (gPure (gCB m__law_lowest (aCons (gBin dAdd (gBin dMul (gBin dIx (gVar 0) (gC (.int 0))) (gBin dIx (gVar 1) (gC (.int 1)))) (gBin dMul (gBin dIx (gVar 1) (gC (.int 0))) (gBin dIx (gVar 0) (gC (.int 1))))) (aCons (gBin dMul (gBin dIx (gVar 0) (gC (.int 1))) (gBin dIx (gVar 1) (gC (.int 1)))) aNil)))))
def m__law_plus : List DV → Rs DV := runB b__law_plus 2
abbrev N__law_times : List Str := ["_law_first", "_law_second"]
def b__law_times : GS := (gRet (gPure (gCB m__law_lowest (aCons (gBin dMul (gBin dIx (gVar 0) (gC (.int 0))) (gBin dIx (gVar 1) (gC (.int 0)))) (aCons (gBin dMul (gBin dIx (gVar 0) (gC (.int 1))) (gBin dIx (gVar 1) (gC (.int 1)))) aNil)))))
def m__law_times : List DV → Rs DV := runB b__law_times 2
abbrev N__law_less : List Str := ["_law_first", "_law_second"]
def b__law_less : GS := (gRet (gPure (gBin dLt (gBin dMul (gBin dIx (gVar 0) (gC (.int 0))) (gBin dIx (gVar 1) (gC (.int 1)))) (gBin dMul (gBin dIx (gVar 1) (gC (.int 0))) (gBin dIx (gVar 0) (gC (.int 1)))))))
def m__law_less : List DV → Rs DV := runB b__law_less 2
abbrev N__law_added : List Str := ["_law_rows", "_law_total", "_law_one"]
def b__law_added : GS := (gSeq (gAsg (gPure (eTup (aCons (gC (.int 0)) (aCons (gC (.int 1)) aNil)))) (gtName 1)) (gSeq (gFor (gSeqI (gVar 0)) (gtName 2) (gAsg (gPure (gCB m__law_plus (aCons (gVar 1) (aCons (gVar 2) aNil)))) (gtName 1))) (gRet (gPure (gVar 1)))))
def m__law_added : List DV → Rs DV := runB b__law_added 3
abbrev N__law_sets : List Str := ["_law_numbers_here", "_law_at", "_law_most", "_law_many", "_law_size", "_law_sets_here", "_law_k", "_law_drawn", "_law_members", "_law_one", "_law_missing", "_law_price"]
def b__law_sets : GS := (gSeq (gAsg (gPure (gBin dAdd (gC (.int 1)) (gBin dMod (gCB dInt (aCons (gBin dIx (gVar 0) (gVar 1)) aNil)) (gVar 2)))) (gtName 4)) (gSeq (gAsg (gPure (eLst aNil)) (gtName 5)) (gSeq (gFor (gRng1 (aCons (gBin dAdd (gC (.int 1)) (gBin dMod (gCB dInt (aCons (gBin dIx (gVar 0) (gBin dAdd (gVar 1) (gC (.int 1)))) aNil)) (gVar 3))) aNil)) (gtName 6) (gSeq (gAsg (gPure (gCB dInt (aCons (gBin dIx (gVar 0) (gBin dAdd (gBin dAdd (gVar 1) (gC (.int 2))) (gVar 6))) aNil))) (gtName 7)) (gSeq (gAsg (gPure (gLc (gRng1 (aCons (gVar 4) aNil)) (gtName 9) (gB (gBin dLt (gBin dMod (gBin dDiv (gCB dInt (aCons (gBin dIx (gVar 0) (gBin dAdd (gBin dAdd (gVar 1) (gC (.int 14))) (gBin dMod (gCB dInt (aCons (gBin dAdd (gVar 9) (gBin dMul (gC (.int 5)) (gVar 6))) aNil)) (gC (.int 40))))) aNil)) (gBin dAdd (gC (.int 1)) (gBin dMod (gVar 7) (gC (.int 7))))) (gC (.int 5))) (gC (.int 2)))) (gVar 9) [9])) (gtName 8)) (gDrop (gApp 5 (gPure (eTup (aCons (gVar 8) (aCons (gBin dAdd (gBin dIx (eLst (aCons (gC (.int 0)) (aCons (gC (.int 1)) (aCons (gC (.int 2)) (aCons (gC (.int 3)) (aCons (gC (.int 4)) (aCons (gC (.int 6)) (aCons (gC (.int 12)) (aCons (gC (.int 60)) aNil))))))))) (gBin dMod (gBin dDiv (gVar 7) (gC (.int 7))) (gC (.int 8)))) (gBin dMod (gBin dDiv (gVar 7) (gC (.int 56))) (gC (.int 3)))) aNil))))))))) (gSeq (gIfS (gB (gBin dGt (gBin dMod (gCB dInt (aCons (gBin dIx (gVar 0) (gBin dAdd (gVar 1) (gC (.int 54)))) aNil)) (gC (.int 4))) (gC (.int 0)))) (gSeq (gAsg (gPure (gLc (gRng1 (aCons (gVar 4) aNil)) (gtName 9) (gB (gBin dEq (gCB dLen (aCons (gLc (gSeqI (gVar 5)) (gtTup [8, 11]) (gB (gBin dIn (gVar 9) (gVar 8))) (gC (.int 1)) [8, 11]) aNil)) (gC (.int 0)))) (gVar 9) [9])) (gtName 10)) (gSeq (gAsg (gPure (gBin dMod (gCB dInt (aCons (gBin dIx (gVar 0) (gBin dAdd (gVar 1) (gC (.int 55)))) aNil)) (gCB dLen (aCons (gVar 5) aNil)))) (gtName 6)) (gSetI 5 (gVar 6) (gPure (eTup (aCons (gCB dSorted (aCons (gBin dAdd (gBin dIx (gBin dIx (gVar 5) (gVar 6)) (gC (.int 0))) (gVar 10)) aNil)) (aCons (gBin dIx (gBin dIx (gVar 5) (gVar 6)) (gC (.int 1))) aNil))))))) gNext) (gRet (xTup (xCons (gPure (gVar 4)) (xCons (gMove 5) xNil))))))))
def m__law_sets : List DV → Rs DV := runB b__law_sets 12
abbrev N__law_part : List Str := ["_law_many", "_law_part_here"]
def b__law_part : GS := (gRet (gPure (gCB m__law_added (aCons (gLc (gRng2 (aCons (gC (.int 1)) (aCons (gBin dAdd (gVar 0) (gC (.int 1))) aNil))) (gtName 1) gYes (eTup (aCons (gC (.int 1)) (aCons (gVar 1) aNil))) [1]) aNil))))
def m__law_part : List DV → Rs DV := runB b__law_part 2
abbrev N__law_due : List Str := ["_law_size", "_law_sets_here", "_law_taken", "_law_shares", "_law_k", "_law_j", "_law_one", "_law_members", "_law_price"]
def b__law_due : GS := (gSeq (gIfS (gOr (gB (gBin dNe (gCB dLen (aCons (gVar 3) aNil)) (gVar 0))) (gB (gBin dGt (gCB dLen (aCons (gLc (gSeqI (gVar 2)) (gtName 4) (gNot (gB (gChain dLe dLt (gC (.int 0)) (gVar 4) (gCB dLen (aCons (gVar 1) aNil))))) (gVar 4) [4]) aNil)) (gC (.int 0))))) (gRet (gPure (gC (.bl false)))) gNext) (gSeq (gIfS (gB (gBin dGt (gCB dLen (aCons (gLc (gRng1 (aCons (gCB dLen (aCons (gVar 2) aNil)) aNil)) (gtName 5) (gB (gBin dIn (gBin dIx (gVar 2) (gVar 5)) (gSl (gVar 2) gNoPart (gPart (gVar 5))))) (gVar 5) [5]) aNil)) (gC (.int 0)))) (gRet (gPure (gC (.bl false)))) gNext) (gSeq (gFor (gRng1 (aCons (gVar 0) aNil)) (gtName 6) (gIfS (gOr (gB (gBin dLt (gBin dIx (gBin dIx (gVar 3) (gVar 6)) (gC (.int 0))) (gC (.int 0)))) (gB (gBin dEq (gCB dLen (aCons (gLc (gSeqI (gVar 2)) (gtName 4) (gB (gBin dIn (gVar 6) (gBin dIx (gBin dIx (gVar 1) (gVar 4)) (gC (.int 0))))) (gVar 4) [4]) aNil)) (gC (.int 0))))) (gRet (gPure (gC (.bl false)))) gNext)) (gSeq (gFor (gSeqI (gVar 1)) (gtTup [7, 8]) (gIfS (gB (gCB m__law_less (aCons (gCB m__law_times (aCons (gCB m__law_part (aCons (gCB dLen (aCons (gVar 7) aNil)) aNil)) (aCons (eTup (aCons (gVar 8) (aCons (gC (.int 1)) aNil))) aNil))) (aCons (gCB m__law_added (aCons (gLc (gSeqI (gVar 7)) (gtName 6) gYes (gBin dIx (gVar 3) (gVar 6)) [6]) aNil)) aNil)))) (gRet (gPure (gC (.bl false)))) gNext)) (gRet (gPure (gBin dEq (gCB m__law_added (aCons (gVar 3) aNil)) (eTup (aCons (gCB dSum (aCons (gLc (gSeqI (gVar 2)) (gtName 4) gYes (gBin dIx (gBin dIx (gVar 1) (gVar 4)) (gC (.int 1))) [4]) aNil)) (aCons (gC (.int 1)) aNil))))))))))
def m__law_due : List DV → Rs DV := runB b__law_due 9
abbrev N__law_least : List Str := ["_law_size", "_law_sets_here", "_law_best", "_law_number", "_law_chosen", "_law_k", "_law_price", "_law_one", "_law_members", "_law_cost"]
def b__law_least : GS := (gSeq (gAsg (gPure (gC .non)) (gtName 2)) (gSeq (gFor (gRng1 (aCons (gBin dShl (gC (.int 1)) (gCB dLen (aCons (gVar 1) aNil))) aNil)) (gtName 3) (gSeq (gAsg (gPure (gLc (gRng1 (aCons (gCB dLen (aCons (gVar 1) aNil)) aNil)) (gtName 5) (gB (gBin dEq (gBin dAnd (gBin dShr (gVar 3) (gVar 5)) (gC (.int 1))) (gC (.int 1)))) (gBin dIx (gVar 1) (gVar 5)) [5])) (gtName 4)) (gSeq (gAsg (gPure (gCB dSum (aCons (gLc (gSeqI (gVar 4)) (gtName 7) gYes (gBin dIx (gVar 7) (gC (.int 1))) [7]) aNil))) (gtName 6)) (gIfS (gOr (gB (gBin dIsN (gVar 2) (gC .non))) (gB (gBin dLt (gVar 6) (gVar 2)))) (gIfS (gB (gBin dEq (gCB dLen (aCons (gLc (gRng1 (aCons (gVar 0) aNil)) (gtName 7) (gB (gBin dEq (gCB dLen (aCons (gLc (gSeqI (gVar 4)) (gtTup [8, 9]) (gB (gBin dIn (gVar 7) (gVar 8))) (gC (.int 1)) [8, 9]) aNil)) (gC (.int 0)))) (gC (.int 1)) [7]) aNil)) (gC (.int 0)))) (gAsg (gPure (gVar 6)) (gtName 2)) gNext) gNext)))) (gRet (gPure (gVar 2)))))
def m__law_least : List DV → Rs DV := runB b__law_least 10
abbrev N__law_changed : List Str := ["_law_numbers_here", "_law_at", "_law_size", "_law_sets_here", "_law_taken", "_law_shares", "_law_way", "_law_k", "_law_one", "_law_two", "_law_part_here"]
def b__law_changed : GS := (gSeq (gAsg (gPure (gCB dList (aCons (gVar 4) aNil))) (gtName 4)) (gSeq (gAsg (gPure (gCB dList (aCons (gVar 5) aNil))) (gtName 5)) (gSeq (gAsg (gPure (gBin dMod (gCB dInt (aCons (gBin dIx (gVar 0) (gVar 1)) aNil)) (gC (.int 8)))) (gtName 6)) (gSeq (gAsg (gPure (gBin dMod (gCB dInt (aCons (gBin dIx (gVar 0) (gBin dAdd (gVar 1) (gC (.int 1)))) aNil)) (gCB dLen (aCons (gVar 3) aNil)))) (gtName 7)) (gSeq (gAsg (gPure (gBin dMod (gCB dInt (aCons (gBin dIx (gVar 0) (gBin dAdd (gVar 1) (gC (.int 2)))) aNil)) (gVar 2))) (gtName 8)) (gSeq (gAsg (gPure (gBin dMod (gCB dInt (aCons (gBin dIx (gVar 0) (gBin dAdd (gVar 1) (gC (.int 3)))) aNil)) (gVar 2))) (gtName 9)) (gSeq (gAsg (gPure (gBin dIx (eLst (aCons (eTup (aCons (gC (.int 1)) (aCons (gC (.int 1)) aNil))) (aCons (eTup (aCons (gC (.int 1)) (aCons (gC (.int 2)) aNil))) (aCons (eTup (aCons (gUn dNeg (gC (.int 1))) (aCons (gC (.int 3)) aNil))) (aCons (eTup (aCons (gC (.int 0)) (aCons (gC (.int 1)) aNil))) aNil))))) (gBin dMod (gCB dInt (aCons (gBin dIx (gVar 0) (gBin dAdd (gVar 1) (gC (.int 4)))) aNil)) (gC (.int 4))))) (gtName 10)) (gSeq (gIfS (gB (gBin dEq (gVar 6) (gC (.int 0)))) (gDrop (gApp 4 (gPure (gVar 7)))) (gIfS (gB (gBin dEq (gVar 6) (gC (.int 1)))) (gAsg (gPure (gSl (gVar 4) (gPart (gC (.int 1))) gNoPart)) (gtName 4)) (gIfS (gB (gBin dEq (gVar 6) (gC (.int 2)))) (gDrop (gApp 4 (gPure (gBin dIx (eLst (aCons (gUn dNeg (gC (.int 1))) (aCons (gCB dLen (aCons (gVar 3) aNil)) aNil))) (gBin dMod (gCB dInt (aCons (gBin dIx (gVar 0) (gBin dAdd (gVar 1) (gC (.int 4)))) aNil)) (gC (.int 2))))))) (gIfS (gB (gBin dEq (gVar 6) (gC (.int 3)))) (gSetI 5 (gVar 8) (gPure (gCB m__law_plus (aCons (gBin dIx (gVar 5) (gVar 8)) (aCons (gVar 10) aNil))))) (gIfS (gB (gBin dEq (gVar 6) (gC (.int 4)))) (gSeq (gSetI 5 (gVar 8) (gPure (gCB m__law_plus (aCons (gBin dIx (gVar 5) (gVar 8)) (aCons (gVar 10) aNil))))) (gSetI 5 (gVar 9) (gPure (gCB m__law_plus (aCons (gBin dIx (gVar 5) (gVar 9)) (aCons (eTup (aCons (gUn dNeg (gBin dIx (gVar 10) (gC (.int 0)))) (aCons (gBin dIx (gVar 10) (gC (.int 1))) aNil))) aNil)))))) (gIfS (gB (gBin dEq (gVar 6) (gC (.int 5)))) (gAsg (gPure (gBin dIx (eLst (aCons (gBin dAdd (gVar 5) (eLst (aCons (eTup (aCons (gC (.int 0)) (aCons (gC (.int 1)) aNil))) aNil))) (aCons (gSl (gVar 5) (gPart (gC (.int 1))) gNoPart) aNil))) (gBin dMod (gCB dInt (aCons (gBin dIx (gVar 0) (gBin dAdd (gVar 1) (gC (.int 4)))) aNil)) (gC (.int 2))))) (gtName 5)) (gIfS (gAnd (gB (gBin dEq (gVar 6) (gC (.int 6)))) (gNot (gB (gBin dIn (gVar 7) (gVar 4))))) (gSeq (gDrop (gApp 4 (gPure (gVar 7)))) (gSetI 5 (gVar 8) (gPure (gCB m__law_plus (aCons (gBin dIx (gVar 5) (gVar 8)) (aCons (eTup (aCons (gBin dIx (gBin dIx (gVar 3) (gVar 7)) (gC (.int 1))) (aCons (gC (.int 1)) aNil))) aNil)))))) (gAsg (gPure (gRev (gVar 4))) (gtName 4))))))))) (gRet (xTup (xCons (gMove 4) (xCons (gPure (gVar 5)) xNil))))))))))))
def m__law_changed : List DV → Rs DV := runB b__law_changed 11
abbrev N_law : List Str := ["_law_script", "_law_numbers_here", "_law_size", "_law_sets_here", "_law_factor", "_law_members", "_law_price", "_law_told", "_law_taken", "_law_shares", "_law_cost", "_law_least_here", "_law_turn", "_law_some", "_law_parts", "_law_again", "_law_kept", "_law_due_here", "_law_k", "_law_total", "_law_bound"]
def b_law : GS := (gSeq (gAsg (gPure (gCB m__law_numbers (aCons (gVar 0) (aCons (gC (.int 170)) aNil)))) (gtName 1)) (gSeq (gAsg (gPure (gCB m__law_sets (aCons (gVar 1) (aCons (gC (.int 10)) (aCons (gC (.int 6)) (aCons (gC (.int 7)) aNil)))))) (gtTup [2, 3])) (gSeq (gAsg (gPure (gCB m__law_part (aCons (gCB dMax (aCons (gLc (gSeqI (gVar 3)) (gtTup [5, 6]) gYes (gCB dLen (aCons (gVar 5) aNil)) [5, 6]) aNil)) aNil))) (gtName 4)) (gSeq (gIfS (gB (gBin dNe (gCB m_cover_factor (aCons (gVar 2) (aCons (gVar 3) aNil))) (gVar 4))) (gRet (gPure (gC (.bl false)))) gNext) (gSeq (gAsg (gPure (gCB m_quick_cover (aCons (gVar 2) (aCons (gVar 3) aNil)))) (gtName 7)) (gSeq (gPar 8 9 (aCons (eLst aNil) (aCons (gBin dRep (eLst (aCons (eTup (aCons (gC (.int 0)) (aCons (gC (.int 1)) aNil))) aNil)) (gVar 2)) aNil))) (gSeq (gIfS (gB (gBin dNotN (gVar 7) (gC .non))) (gAsg (gPure (gVar 7)) (gtTup [8, 10, 9])) gNext) (gSeq (gAsg (gPure (gCB m__law_least (aCons (gVar 2) (aCons (gVar 3) aNil)))) (gtName 11)) (gSeq (gFor (gRng1 (aCons (gC (.int 10)) aNil)) (gtName 12) (gSeq (gPar 13 14 (aCons (gCB dList (aCons (gVar 8) aNil)) (aCons (gCB dList (aCons (gVar 9) aNil)) aNil))) (gSeq (gFor (gRng1 (aCons (gCB dMin2 (aCons (gVar 12) (aCons (gC (.int 2)) aNil))) aNil)) (gtName 15) (gAsg (gPure (gCB m__law_changed (aCons (gVar 1) (aCons (gBin dAdd (gBin dAdd (gC (.int 70)) (gBin dMul (gC (.int 9)) (gVar 12))) (gBin dMul (gC (.int 5)) (gVar 15))) (aCons (gVar 2) (aCons (gVar 3) (aCons (gVar 13) (aCons (gSl (gBin dAdd (gVar 14) (gBin dRep (eLst (aCons (eTup (aCons (gC (.int 0)) (aCons (gC (.int 1)) aNil))) aNil)) (gVar 2))) gNoPart (gPart (gVar 2))) aNil)))))))) (gtTup [13, 14]))) (gSeq (gIfS (gB (gBin dEq (gVar 12) (gC (.int 9)))) (gAsg (gPure (gCB m__law_changed (aCons (gVar 1) (aCons (gC (.int 160)) (aCons (gVar 2) (aCons (gVar 3) (aCons (gVar 13) (aCons (gVar 9) aNil)))))))) (gtTup [13, 14])) gNext) (gSeq (gAsg (gPure (gCB dRepr (aCons (eTup (aCons (gVar 13) (aCons (gVar 14) aNil))) aNil))) (gtName 16)) (gSeq (gAsg (gPure (gCB m__law_due (aCons (gVar 2) (aCons (gVar 3) (aCons (gVar 13) (aCons (gVar 14) aNil)))))) (gtName 17)) (gSeq (gIfS (gOr (gB (gBin dNe (gCB m_check_shares (aCons (gVar 2) (aCons (gVar 3) (aCons (gVar 13) (aCons (gVar 14) aNil))))) (gVar 17))) (gB (gBin dNe (gCB dRepr (aCons (eTup (aCons (gVar 13) (aCons (gVar 14) aNil))) aNil)) (gVar 16)))) (gRet (gPure (gC (.bl false)))) gNext) (gSeq (gIfS (gTru (gVar 17)) (gSeq (gAsg (gPure (gCB dSum (aCons (gLc (gSeqI (gVar 13)) (gtName 18) gYes (gBin dIx (gBin dIx (gVar 3) (gVar 18)) (gC (.int 1))) [18]) aNil))) (gtName 10)) (gIfS (gOr (gB (gBin dIsN (gVar 11) (gC .non))) (gB (gCB m__law_less (aCons (gCB m__law_times (aCons (gVar 4) (aCons (eTup (aCons (gVar 11) (aCons (gC (.int 1)) aNil))) aNil))) (aCons (eTup (aCons (gVar 10) (aCons (gC (.int 1)) aNil))) aNil))))) (gRet (gPure (gC (.bl false)))) gNext)) gNext) (gIfS (gB (gBin dEq (gCB dLen (aCons (gVar 14) aNil)) (gVar 2))) (gSeq (gAsg (gPure (gCB m__law_added (aCons (gVar 14) aNil))) (gtName 19)) (gSeq (gAsg (gPure (eTup (aCons (gC (.int 0)) (aCons (gC (.int 1)) aNil)))) (gtName 20)) (gSeq (gIfS (gB (gBin dNe (gVar 4) (eTup (aCons (gC (.int 0)) (aCons (gC (.int 1)) aNil))))) (gAsg (gPure (gCB m__law_lowest (aCons (gBin dMul (gBin dIx (gVar 19) (gC (.int 0))) (gBin dIx (gVar 4) (gC (.int 1)))) (aCons (gBin dMul (gBin dIx (gVar 19) (gC (.int 1))) (gBin dIx (gVar 4) (gC (.int 0)))) aNil)))) (gtName 20)) gNext) (gIfS (gOr (gB (gBin dNe (gCB m_cover_bound (aCons (gVar 2) (aCons (gVar 3) (aCons (gVar 14) aNil)))) (gVar 20))) (gAnd (gTru (gVar 17)) (gB (gCB m__law_less (aCons (eTup (aCons (gVar 11) (aCons (gC (.int 1)) aNil))) (aCons (gVar 20) aNil)))))) (gRet (gPure (gC (.bl false)))) gNext)))) gNext))))))))) (gRet (gPure (gOrV (gBin dIsN (gVar 7) (gC .non)) (gCB m__law_due (aCons (gVar 2) (aCons (gVar 3) (aCons (gVar 8) (aCons (gVar 9) aNil)))))))))))))))))
def m_law : List DV → Rs DV := runB b_law 21
end M
end

/-! text L1 -/
section
set_option maxRecDepth 100000
set_option maxHeartbeats 4000000
namespace M
open PySem DL
abbrev pr (z : Int × Int) : DV := .tup [.int z.1, .int z.2]
abbrev gi (a b : Int) : Int := ((Nat.gcd a.natAbs b.natAbs : Nat) : Int)
/-- the lowest terms, the sign above -/
def low (p q : Int) : Int × Int := if q < 0 then (-p / gi p q, -q / gi p q) else (p / gi p q, q / gi p q)
theorem gi_pos {p q : Int} (h : q ≠ 0) : 0 < gi p q := by
  have : 0 < Nat.gcd p.natAbs q.natAbs := Nat.gcd_pos_of_pos_right _ (by omega)
  exact Int.ofNat_lt.mpr this
theorem gi_log {p q : Int} (h : q ≠ 0) (hb : q.natAbs.log2 < 9000) : (gi p q).natAbs.log2 < 9000 := by
  have h1 : Nat.gcd p.natAbs q.natAbs ≤ q.natAbs := Nat.gcd_le_right _ (by omega)
  have e : (gi p q).natAbs = Nat.gcd p.natAbs q.natAbs := by simp [gi]
  rw [e]
  have h2 : Nat.gcd p.natAbs q.natAbs ≠ 0 := Nat.pos_iff_ne_zero.mp (Nat.gcd_pos_of_pos_right _ (by omega))
  have h3 := Nat.log2_self_le h2
  have h4 : 2 ^ (Nat.gcd p.natAbs q.natAbs).log2 ≤ q.natAbs := Nat.le_trans h3 h1
  exact Nat.lt_of_le_of_lt ((Nat.le_log2 (by omega)).mpr h4) hb
theorem two_le : (2 : Nat) ≤ sizeLine := by decide
theorem fraction_ok {p q : Int} (h : q ≠ 0) (hb : q.natAbs.log2 < 9000) : m_fraction [.int p, .int q] = .ok (pr (low p q)) := by
  have g0 : 0 < ((Nat.gcd p.natAbs q.natAbs : Nat) : Int) := gi_pos (p := p) h
  have g1 : (((Nat.gcd p.natAbs q.natAbs : Nat) : Int)).natAbs.log2 < 9000 := gi_log (p := p) h hb
  have d1 : ∀ x : Int, dDiv (.int x) (.int ((Nat.gcd p.natAbs q.natAbs : Nat) : Int)) = .ok (.int (x / ((Nat.gcd p.natAbs q.natAbs : Nat) : Int))) := fun x => dDiv_i g0 g1
  have e0 : decide (q = 0) = false := decide_eq_false h
  unfold m_fraction runB b_fraction low
  by_cases hn : q < 0
  · simp [gSeq, gIfS, startD, dEq_i, e0, dLt_i, hn, gPar, dNeg_i, gAsg, dGcd, d2I, gtName, gRet, finB, d1, two_le, Rs.bind]
  · simp [gSeq, gIfS, startD, dEq_i, e0, dLt_i, hn, gPar, dNeg_i, gAsg, dGcd, d2I, gtName, gRet, finB, d1, two_le, Rs.bind]
theorem ix0 {a b : DV} : dIx (.tup [a, b]) (.int 0) = .ok a := rfl
theorem ix1 {a b : DV} : dIx (.tup [a, b]) (.int 1) = .ok b := rfl
/-- the sizes of the numbers of a pair -/
theorem mulOk_of {a b : Int} {m n : Nat} (ha : a.natAbs < 2 ^ m) (hb : b.natAbs < 2 ^ n) (hm : 0 < m) (hn : 0 < n) (h : m + n ≤ 1000000) : mulOk a b = true := by
  have z : a.natAbs.log2 + b.natAbs.log2 < 1000000 := L2.wide_mul ha hb hm hn h
  unfold mulOk
  rw [decide_eq_true z, Bool.or_true, Bool.or_true]
end M
end

/-! text L2m -/
section
set_option maxRecDepth 100000
set_option maxHeartbeats 4000000
namespace M
open PySem DL
def eBody : GS := gSeq (gIfS (gB (gBin dEq (gVar 3) (gC (.int 0)))) gBrk gNext) (gPar 2 3 (aCons (gVar 3) (aCons (gBin dMod (gCB dInt (aCons (gVar 2) aNil)) (gVar 3)) aNil)))
section
variable {P Q : Option DV} {a b : Int} {t : Option DV} {d : DV}
theorem eb_0 : eBody [P, Q, some (.int a), some (.int 0), t] = .bk [P, Q, some (.int a), some (.int 0), t] := by
  unfold eBody
  simp [gSeq, gIfS, dEq_i, Rs.bind, gBrk]
theorem eb_p (h : 0 < b) : eBody [P, Q, some (.int a), some (.int b), t] = .nx [P, Q, some (.int b), some (.int (a % b)), t] := by
  have e : decide (b = 0) = false := decide_eq_false (by omega)
  unfold eBody
  simp [gSeq, gIfS, dEq_i, Rs.bind, e, gPar, dInt_i, dMod_i h]
theorem fg_0 (ds : List DV) : ∃ t', forG (gtName 4) eBody ds [P, Q, some (.int a), some (.int 0), t] = .nx [P, Q, some (.int a), some (.int 0), t'] := by
  cases ds with
  | nil => exact ⟨t, rfl⟩
  | cons d ds =>
    refine ⟨some d, ?_⟩
    unfold forG
    show (match eBody [P, Q, some (.int a), some (.int 0), some d] with
      | .nx ρ2 => forG (gtName 4) eBody ds ρ2
      | .ct ρ2 => forG (gtName 4) eBody ds ρ2
      | .bk ρ2 => .nx ρ2
      | o => o) = _
    rw [eb_0]
theorem fg_p (h : 0 < b) (ds : List DV) : forG (gtName 4) eBody (d :: ds) [P, Q, some (.int a), some (.int b), t] = forG (gtName 4) eBody ds [P, Q, some (.int b), some (.int (a % b)), some d] := by
  conv => lhs; unfold forG
  show (match eBody [P, Q, some (.int a), some (.int b), some d] with
    | .nx ρ2 => forG (gtName 4) eBody ds ρ2
    | .ct ρ2 => forG (gtName 4) eBody ds ρ2
    | .bk ρ2 => .nx ρ2
    | o => o) = _
  rw [eb_p h]
end
theorem gi_0 {a : Int} (h : 0 ≤ a) : gi a 0 = a := by
  simp [gi]
  omega
theorem gi_mod {a b : Int} (ha : 0 ≤ a) (hb : 0 < b) : gi b (a % b) = gi a b := by
  unfold gi
  obtain ⟨m, rfl⟩ := Int.eq_ofNat_of_zero_le ha
  obtain ⟨n, rfl⟩ := Int.eq_ofNat_of_zero_le (Int.le_of_lt hb)
  have e : ((m : Int) % (n : Int)).natAbs = m % n := rfl
  rw [e]
  simp only [Int.natAbs_natCast]
  rw [Nat.gcd_comm n, ← Nat.gcd_rec, Nat.gcd_comm]
theorem euclid {P Q : Option DV} : ∀ (k : Nat) (ds : List DV) (a b : Int) (t : Option DV), 0 ≤ a → 0 ≤ b → b < 2 ^ k → 2 * k ≤ ds.length →
    ∃ t', forG (gtName 4) eBody ds [P, Q, some (.int a), some (.int b), t] = .nx [P, Q, some (.int (gi a b)), some (.int 0), t']
  | 0, ds, a, b, t, ha, hb, h, _ => by
    have e : b = 0 := by
      have : (2 : Int) ^ 0 = 1 := rfl
      omega
    subst e
    rw [gi_0 ha]
    exact fg_0 ds
  | k + 1, ds, a, b, t, ha, hb, h, hl => by
    by_cases e : b = 0
    · subst e
      rw [gi_0 ha]
      exact fg_0 ds
    · have hb0 : 0 < b := by omega
      match ds, hl with
      | d1 :: d2 :: ds, hl =>
        rw [fg_p hb0]
        have c0 : 0 ≤ a % b := Int.emod_nonneg _ e
        have c1 : a % b < b := Int.emod_lt_of_pos _ hb0
        rw [← gi_mod ha hb0]
        by_cases e2 : a % b = 0
        · rw [e2, gi_0 hb]
          exact fg_0 _
        · have c2 : 0 < a % b := by omega
          rw [fg_p c2, ← gi_mod hb c2]
          refine euclid k ds (a % b) (b % (a % b)) _ c0 (Int.emod_nonneg _ e2) ?_ (by simp at hl; omega)
          have h1 : b % (a % b) < a % b := Int.emod_lt_of_pos _ c2
          have h2 : (2 : Int) ^ (k + 1) = 2 ^ k * 2 := Int.pow_succ ..
          have h3 := Int.emod_add_mul_ediv b (a % b)
          have h4 : 1 ≤ b / (a % b) := by
            rw [Int.le_ediv_iff_mul_le c2]
            omega
          have h5 : (a % b) * 1 ≤ (a % b) * (b / (a % b)) := Int.mul_le_mul_of_nonneg_left h4 (by omega)
          omega
end M
end

/-! text L3 -/
section
set_option maxRecDepth 100000
set_option maxHeartbeats 4000000
namespace M
open PySem DL
theorem gi_abs (p q : Int) : gi (if p < 0 then -p else p) q = gi p q := by
  split <;> simp [gi]
theorem low_tail {p q a : Int} {t : Option DV} (h : 0 < q) (hb : q.natAbs < 2 ^ 1999) (e : a = gi p q) :
    finB (gRet (gPure (eTup (aCons (gBin dDiv (gVar 0) (gVar 2)) (aCons (gBin dDiv (gVar 1) (gVar 2)) aNil)))) [some (.int p), some (.int q), some (.int a), some (.int 0), t]) = .ok (pr (p / gi p q, q / gi p q)) := by
  subst e
  have g0 := gi_pos (p := p) (q := q) (by omega)
  have hq : q.natAbs.log2 < 9000 := Nat.lt_of_lt_of_le (PySem.Flt.log2_lt_of (by decide) hb) (by decide)
  have g1 := gi_log (p := p) (q := q) (by omega) hq
  have d1 : ∀ x : Int, dDiv (.int x) (.int (gi p q)) = .ok (.int (x / gi p q)) := fun x => dDiv_i g0 g1
  simp [gRet, Rs.bind, d1, two_le, finB]
theorem low_loop {p q : Int} {t : Option DV} (h : 0 < q) (hb : q.natAbs < 2 ^ 1999) :
    finB (gSeq (gPar 2 3 (aCons (gCB dAbs (aCons (gVar 0) aNil)) (aCons (gVar 1) aNil))) (gSeq (gFor (gRng1 (aCons (gC (.int 4000)) aNil)) (gtName 4) eBody) (gRet (gPure (eTup (aCons (gBin dDiv (gVar 0) (gVar 2)) (aCons (gBin dDiv (gVar 1) (gVar 2)) aNil)))))) [some (.int p), some (.int q), none, none, none]) = .ok (pr (p / gi p q, q / gi p q)) := by
  have e1 : gPar 2 3 (aCons (gCB dAbs (aCons (gVar 0) aNil)) (aCons (gVar 1) aNil)) [some (.int p), some (.int q), none, none, none] = .nx [some (.int p), some (.int q), some (.int (if p < 0 then -p else p)), some (.int q), none] := rfl
  rw [ev_seq e1]
  have e2 : ∀ ρ, gRng1 (aCons (gC (.int 4000)) aNil) ρ = .ok (rngD 0 4000) := fun ρ => rfl
  have hq : q < 2 ^ 1999 := by
    have : (q.natAbs : Int) < ((2 ^ 1999 : Nat) : Int) := Int.ofNat_lt.mpr hb
    rw [Int.natCast_pow] at this
    have e : (q.natAbs : Int) = q := Int.natAbs_of_nonneg (Int.le_of_lt h)
    rw [e] at this
    exact this
  obtain ⟨t', e3⟩ := euclid (P := some (.int p)) (Q := some (.int q)) 1999 (rngD 0 4000) (if p < 0 then -p else p) q none (by split <;> omega) (Int.le_of_lt h) hq (by unfold rngD; rw [List.length_map, List.length_range]; decide)
  have e4 : gFor (gRng1 (aCons (gC (.int 4000)) aNil)) (gtName 4) eBody [some (.int p), some (.int q), some (.int (if p < 0 then -p else p)), some (.int q), none] = .nx [some (.int p), some (.int q), some (.int (gi (if p < 0 then -p else p) q)), some (.int 0), t'] := by
    unfold gFor
    rw [e2]
    exact e3
  rw [ev_seq e4]
  exact low_tail h hb (gi_abs p q)
theorem lowest_ok {p q : Int} (h : q ≠ 0) (hb : q.natAbs < 2 ^ 1999) : m__law_lowest [.int p, .int q] = .ok (pr (low p q)) := by
  unfold low
  by_cases hn : q < 0
  · rw [if_pos hn]
    have e1 : gIfS (gB (gBin dLt (gVar 1) (gC (.int 0)))) (gPar 0 1 (aCons (gUn dNeg (gVar 0)) (aCons (gUn dNeg (gVar 1)) aNil))) gNext [some (.int p), some (.int q), none, none, none] = .nx [some (.int (-p)), some (.int (-q)), none, none, none] := by
      simp [gIfS, dLt_i, hn, Rs.bind, gPar, dNeg_i]
    have z := low_loop (p := -p) (q := -q) (t := none) (by omega) (by rw [Int.natAbs_neg]; exact hb)
    have g2 : gi (-p) (-q) = gi p q := by simp [gi]
    rw [g2] at z
    unfold m__law_lowest runB b__law_lowest
    show finB (gSeq _ _ [some (.int p), some (.int q), none, none, none]) = _
    rw [ev_seq e1]
    exact z
  · rw [if_neg hn]
    have e1 : gIfS (gB (gBin dLt (gVar 1) (gC (.int 0)))) (gPar 0 1 (aCons (gUn dNeg (gVar 0)) (aCons (gUn dNeg (gVar 1)) aNil))) gNext [some (.int p), some (.int q), none, none, none] = .nx [some (.int p), some (.int q), none, none, none] := by
      simp [gIfS, dLt_i, hn, Rs.bind]
    have z := low_loop (p := p) (q := q) (t := none) (by omega) hb
    unfold m__law_lowest runB b__law_lowest
    show finB (gSeq _ _ [some (.int p), some (.int q), none, none, none]) = _
    rw [ev_seq e1]
    exact z
end M
end

/-! text L4 -/
section
set_option maxRecDepth 100000
set_option maxHeartbeats 4000000
namespace M
open PySem DL
theorem gi_dl (p q : Int) : gi p q ∣ p := Int.natAbs_dvd_natAbs.mp (by simpa [gi] using Nat.gcd_dvd_left p.natAbs q.natAbs)
theorem gi_dr (p q : Int) : gi p q ∣ q := Int.natAbs_dvd_natAbs.mp (by simpa [gi] using Nat.gcd_dvd_right p.natAbs q.natAbs)
theorem nat_div {a : Int} {G : Nat} (hg : 0 < G) (hd : (G : Int) ∣ a) : (a / (G : Int)).natAbs = a.natAbs / G := by
  obtain ⟨c, hc⟩ := hd
  subst hc
  rw [Int.mul_ediv_cancel_left _ (by omega), Int.natAbs_mul, Int.natAbs_natCast, Nat.mul_div_cancel_left _ hg]
/-- sizes -/
def Sz (m n : Nat) (z : Int × Int) : Prop := z.1.natAbs < 2 ^ m ∧ z.2.natAbs < 2 ^ n
theorem low_pos {p q : Int} (h : q ≠ 0) : 0 < (low p q).2 := by
  have g0 := gi_pos (p := p) h
  have hd := gi_dr p q
  unfold low
  split
  · rename_i hn
    have h1 : gi p q ∣ -q := Int.dvd_neg.mpr hd
    obtain ⟨c, hc⟩ := h1
    show 0 < -q / gi p q
    rw [hc, Int.mul_ediv_cancel_left _ (by omega)]
    by_cases hz : c ≤ 0
    · have : gi p q * c ≤ 0 := Int.mul_nonpos_of_nonneg_of_nonpos (by omega) hz
      omega
    · omega
  · rename_i hn
    obtain ⟨c, hc⟩ := hd
    show 0 < q / gi p q
    conv => rhs; lhs; rw [hc]
    rw [Int.mul_ediv_cancel_left _ (by omega)]
    by_cases hz : c ≤ 0
    · have : gi p q * c ≤ 0 := Int.mul_nonpos_of_nonneg_of_nonpos (by omega) hz
      omega
    · omega
theorem natAbs_ediv_le {a g : Int} (hg : 0 < g) (hd : g ∣ a) : (a / g).natAbs ≤ a.natAbs := by
  obtain ⟨c, hc⟩ := hd
  rw [hc, Int.mul_ediv_cancel_left _ (by omega), Int.natAbs_mul]
  exact Nat.le_mul_of_pos_left _ (by omega)
theorem low_le {p q : Int} (h : q ≠ 0) : (low p q).1.natAbs ≤ p.natAbs ∧ (low p q).2.natAbs ≤ q.natAbs := by
  have g0 := gi_pos (p := p) h
  have d1 := gi_dl p q
  have d2 := gi_dr p q
  unfold low
  split
  · refine ⟨?_, ?_⟩
    · have := natAbs_ediv_le g0 (Int.dvd_neg.mpr d1)
      rw [Int.natAbs_neg] at this
      exact this
    · have := natAbs_ediv_le g0 (Int.dvd_neg.mpr d2)
      rw [Int.natAbs_neg] at this
      exact this
  · exact ⟨natAbs_ediv_le g0 d1, natAbs_ediv_le g0 d2⟩
theorem low_sz {p q : Int} {m n : Nat} (h : q ≠ 0) (hp : p.natAbs < 2 ^ m) (hq : q.natAbs < 2 ^ n) : Sz m n (low p q) := ⟨Nat.lt_of_le_of_lt (low_le h).1 hp, Nat.lt_of_le_of_lt (low_le h).2 hq⟩
theorem gi_div {p q : Int} (h : q ≠ 0) : gi (p / gi p q) (q / gi p q) = 1 := by
  have g0 := gi_pos (p := p) h
  have gN : 0 < Nat.gcd p.natAbs q.natAbs := Nat.gcd_pos_of_pos_right _ (by omega)
  have d1 := gi_dl p q
  have d2 := gi_dr p q
  have e1 : (p / gi p q).natAbs = p.natAbs / Nat.gcd p.natAbs q.natAbs := nat_div gN d1
  have e2 : (q / gi p q).natAbs = q.natAbs / Nat.gcd p.natAbs q.natAbs := nat_div gN d2
  show ((Nat.gcd (p / gi p q).natAbs (q / gi p q).natAbs : Nat) : Int) = 1
  rw [e1, e2, Nat.gcd_div_gcd_div_gcd_of_pos_right (by omega)]
  rfl
end M
end

/-! text L5 -/
section
set_option maxRecDepth 100000
set_option maxHeartbeats 4000000
namespace M
open PySem DL
/-- small enough for products -/
def Sm (z : Int × Int) : Prop := z.1.natAbs < 2 ^ 4000 ∧ z.2.natAbs < 2 ^ 1950
theorem mo {a b : Int} (ha : a.natAbs < 2 ^ 4000) (hb : b.natAbs < 2 ^ 4000) : mulOk a b = true := mulOk_of ha hb (by decide) (by decide) (by decide)
theorem up {a : Int} (h : a.natAbs < 2 ^ 1950) : a.natAbs < 2 ^ 4000 := Nat.lt_of_lt_of_le h (Nat.pow_le_pow_right (by decide) (by decide))
section
variable {x y : Int × Int}
theorem plus_e (hx : Sm x) (hy : Sm y) : m_plus [pr x, pr y] = m_fraction [.int (x.1 * y.2 + y.1 * x.2), .int (x.2 * y.2)] := by
  unfold m_plus runB b_plus
  simp [gRet, startD, Rs.bind, ix0, ix1, dMul_i (mo hx.1 (up hy.2)), dMul_i (mo hy.1 (up hx.2)), dMul_i (mo (up hx.2) (up hy.2)), dAdd_i]
  cases m_fraction [.int (x.1 * y.2 + y.1 * x.2), .int (x.2 * y.2)] <;> rfl
theorem times_e (hx : Sm x) (hy : Sm y) : m_times [pr x, pr y] = m_fraction [.int (x.1 * y.1), .int (x.2 * y.2)] := by
  unfold m_times runB b_times
  simp [gRet, startD, Rs.bind, ix0, ix1, dMul_i (mo hx.1 hy.1), dMul_i (mo (up hx.2) (up hy.2))]
  cases m_fraction [.int (x.1 * y.1), .int (x.2 * y.2)] <;> rfl
theorem over_e (hx : Sm x) (hy : Sm y) : m_over [pr x, pr y] = m_fraction [.int (x.1 * y.2), .int (x.2 * y.1)] := by
  unfold m_over runB b_over
  simp [gRet, startD, Rs.bind, ix0, ix1, dMul_i (mo hx.1 (up hy.2)), dMul_i (mo (up hx.2) hy.1)]
  cases m_fraction [.int (x.1 * y.2), .int (x.2 * y.1)] <;> rfl
theorem lplus_e (hx : Sm x) (hy : Sm y) : m__law_plus [pr x, pr y] = m__law_lowest [.int (x.1 * y.2 + y.1 * x.2), .int (x.2 * y.2)] := by
  unfold m__law_plus runB b__law_plus
  simp [gRet, startD, Rs.bind, ix0, ix1, dMul_i (mo hx.1 (up hy.2)), dMul_i (mo hy.1 (up hx.2)), dMul_i (mo (up hx.2) (up hy.2)), dAdd_i]
  cases m__law_lowest [.int (x.1 * y.2 + y.1 * x.2), .int (x.2 * y.2)] <;> rfl
theorem ltimes_e (hx : Sm x) (hy : Sm y) : m__law_times [pr x, pr y] = m__law_lowest [.int (x.1 * y.1), .int (x.2 * y.2)] := by
  unfold m__law_times runB b__law_times
  simp [gRet, startD, Rs.bind, ix0, ix1, dMul_i (mo hx.1 hy.1), dMul_i (mo (up hx.2) (up hy.2))]
  cases m__law_lowest [.int (x.1 * y.1), .int (x.2 * y.2)] <;> rfl
theorem less_e (hx : Sm x) (hy : Sm y) : m_is_less [pr x, pr y] = .ok (.bl (decide (x.1 * y.2 < y.1 * x.2))) := by
  unfold m_is_less runB b_is_less
  simp [gRet, startD, Rs.bind, ix0, ix1, dMul_i (mo hx.1 (up hy.2)), dMul_i (mo hy.1 (up hx.2)), dLt_i, finB]
theorem lless_e (hx : Sm x) (hy : Sm y) : m__law_less [pr x, pr y] = .ok (.bl (decide (x.1 * y.2 < y.1 * x.2))) := by
  unfold m__law_less runB b__law_less
  simp [gRet, startD, Rs.bind, ix0, ix1, dMul_i (mo hx.1 (up hy.2)), dMul_i (mo hy.1 (up hx.2)), dLt_i, finB]
end
end M
end

/-! text L6 -/
section
set_option maxRecDepth 100000
set_option maxHeartbeats 4000000
namespace M
open PySem DL
theorem eqv_pr {x y : Int × Int} : eqv (pr x) (pr y) = decide (x = y) := by
  obtain ⟨a, b⟩ := x
  obtain ⟨c, d⟩ := y
  by_cases h1 : a = c <;> by_cases h2 : b = d <;> simp [eqv, py, pys, PyData.eqv, PyData.eqvAll, h1, h2]
theorem dEq_pr {x y : Int × Int} : dEq (pr x) (pr y) = .ok (.bl (decide (x = y))) := by
  unfold dEq
  rw [if_pos (by rfl), eqv_pr]
theorem dNe_pr {x y : Int × Int} : dNe (pr x) (pr y) = .ok (.bl (!decide (x = y))) := by
  unfold dNe
  rw [if_pos (by rfl), eqv_pr]
end M
end

/-! text L8 -/
section
set_option maxRecDepth 100000
set_option maxHeartbeats 4000000
namespace M
open PySem DL
abbrev ab (i : Int) : Int := if i < 0 then -i else i
def nBody : GS := (gSeq (gAsg (gPure (gBin dMod (gCB dInt (aCons (gVar 6) aNil)) (gCB dLen (aCons (gVar 2) aNil)))) (gtName 7)) (gIfS (gB (gBin dGe (gBin dIx (gVar 2) (gVar 7)) (gBin dPow (gC (.int 10)) (gC (.int 18))))) (gSeq (gDrop (gApp 5 (gPure (gBin dMod (gCB dInt (aCons (gBin dIx (gVar 2) (gVar 7)) aNil)) (gC (.int 65536)))))) (gSetI 2 (gVar 7) (gPure (gBin dDiv (gBin dIx (gVar 2) (gVar 7)) (gC (.int 65536)))))) (gSeq (gSetI 4 (gVar 7) (gPure (gBin dMod (gCB dInt (aCons (gBin dAdd (gBin dAdd (gBin dMul (gBin dIx (gVar 4) (gVar 7)) (gC (.int 16807))) (gC (.int 12345))) (gBin dMul (gC (.int 7919)) (gVar 6))) aNil)) (gC (.int 2147483647))))) (gDrop (gApp 5 (gPure (gBin dMod (gCB dInt (aCons (gBin dAdd (gBin dIx (gVar 2) (gVar 7)) (gBin dDiv (gBin dIx (gVar 4) (gVar 7)) (gC (.int 5)))) aNil)) (gC (.int 65536)))))))))
/-- the loop's invariant -/
def NI (S A : Option DV) (i : Nat) (ρ : EnvD) : Prop := ∃ (rest mixed out : List Int) (x t u : Option DV), ρ = [S, A, some (di rest), x, some (di mixed), some (di out), t, u] ∧
  rest.length = mixed.length ∧ 0 < rest.length ∧ rest.length ≤ 64 ∧ (∀ z ∈ mixed, z.natAbs < 2 ^ 32) ∧ out.length = i ∧ ∀ z ∈ out, 0 ≤ z ∧ z < 65536
theorem n_turn {S A : Option DV} {i : Nat} {ρ : EnvD} (hi : i < 1000) (h : NI S A i ρ) : ∃ ρ1 ρ2, gtName 6 (.int ((0 : Int) + (i : Int))) ρ = .ok ρ1 ∧ nBody ρ1 = .nx ρ2 ∧ NI S A (i + 1) ρ2 := by
  obtain ⟨rest, mixed, out, x, t, u, rfl, h1, h2, h3, h4, h5, h6⟩ := h
  refine ⟨[S, A, some (di rest), x, some (di mixed), some (di out), some (.int ((0 : Int) + (i : Int))), u], ?_⟩
  have hp : (0 : Int) < (rest.length : Int) := by omega
  have hk : i % rest.length < rest.length := Nat.mod_lt _ h2
  have hk2 : i % rest.length < mixed.length := h1 ▸ hk
  have e1 : ((0 : Int) + (i : Int)) % (rest.length : Int) = ((i % rest.length : Nat) : Int) := by
    rw [Int.zero_add]
    rfl
  have a1 : gAsg (gPure (gBin dMod (gCB dInt (aCons (gVar 6) aNil)) (gCB dLen (aCons (gVar 2) aNil)))) (gtName 7) [S, A, some (di rest), x, some (di mixed), some (di out), some (.int ((0 : Int) + (i : Int))), u] = .nx [S, A, some (di rest), x, some (di mixed), some (di out), some (.int ((0 : Int) + (i : Int))), some (.int ((i % rest.length : Nat) : Int))] := by
    simp only [gAsg, ev_pure, ev_bin, ev_cb, ev_cons, ev_nil, ev_var, lk_s, lk_0, Rs.bind, dInt_i, dLen_i, dMod_i hp, e1, gtName]
    rfl
  have g1 : dIx (di rest) (.int ((i % rest.length : Nat) : Int)) = .ok (.int rest[i % rest.length]) := dIx_i hk
  have g2 : dIx (di mixed) (.int ((i % rest.length : Nat) : Int)) = .ok (.int mixed[i % rest.length]) := dIx_i hk2
  have lo : out.length < sizeLine := by rw [h5, sz_eq]; omega
  by_cases hb : (10 : Int) ^ 18 ≤ rest[i % rest.length]
  · refine ⟨[S, A, some (di (rest.set (i % rest.length) (rest[i % rest.length] / 65536))), x, some (di mixed), some (di (out ++ [rest[i % rest.length] % 65536])), some (.int ((0 : Int) + (i : Int))), some (.int ((i % rest.length : Nat) : Int))], rfl, ?_, ?_⟩
    · unfold nBody
      rw [ev_seq a1]
      have p18 : dPow (.int 10) (.int 18) = .ok (.int (10 ^ 18)) := rfl
      have q1 : decide ((10 : Int) ^ 18 ≤ rest[i % rest.length]) = true := decide_eq_true hb
      have m1 : ∀ z : Int, dMod (.int z) (.int 65536) = .ok (.int (z % 65536)) := fun z => dMod_i (by decide)
      have v1 : ∀ z : Int, dDiv (.int z) (.int 65536) = .ok (.int (z / 65536)) := fun z => dDiv_i (by decide) (by decide)
      have lo2 : (out.map DV.int).length < sizeLine := by rw [List.length_map]; exact lo
      have st : ∀ y : Int, setD (di rest) (.int ((i % rest.length : Nat) : Int)) (.int y) = .ok (di (rest.set (i % rest.length) y)) := fun y => setD_i hk
      simp only [gIfS, ev_b, ev_bin, ev_var, lk_s, lk_0, ev_c, Rs.bind, g1, p18, dGe_i, q1, ev_asB, if_true, gSeq, gDrop, gApp, ev_pure, ev_cb, ev_cons, ev_nil, dInt_i, m1, lo2, gSetI, List.set_cons_succ, List.set_cons_zero, v1, st]
      simp [List.map_append]
    · refine ⟨_, _, _, _, _, _, rfl, by rw [List.length_set]; exact h1, by rw [List.length_set]; exact h2, by rw [List.length_set]; exact h3, h4, by rw [List.length_append, h5]; rfl, fun z hz => ?_⟩
      rcases List.mem_append.mp hz with hz | hz
      · exact h6 z hz
      · rw [List.mem_singleton.mp hz]
        omega
  · have hm : mixed[i % rest.length].natAbs < 2 ^ 64 := Nat.lt_of_lt_of_le (h4 _ (List.getElem_mem hk2)) (by decide)
    have u1 : mulOk mixed[i % rest.length] 16807 = true := by
      unfold mulOk
      rw [decide_eq_true hm, Bool.true_or]
    have u2 : mulOk 7919 ((0 : Int) + (i : Int)) = true := by
      unfold mulOk
      rw [decide_eq_true (by decide : (7919 : Int).natAbs < 2 ^ 64), Bool.true_or]
    have p18 : dPow (.int 10) (.int 18) = .ok (.int (10 ^ 18)) := rfl
    have q1 : decide ((10 : Int) ^ 18 ≤ rest[i % rest.length]) = false := decide_eq_false hb
    have m1 : ∀ z : Int, dMod (.int z) (.int 65536) = .ok (.int (z % 65536)) := fun z => dMod_i (by decide)
    have m2 : ∀ z : Int, dMod (.int z) (.int 2147483647) = .ok (.int (z % 2147483647)) := fun z => dMod_i (by decide)
    have v1 : ∀ z : Int, dDiv (.int z) (.int 5) = .ok (.int (z / 5)) := fun z => dDiv_i (by decide) (by decide)
    have lo2 : (out.map DV.int).length < sizeLine := by rw [List.length_map]; exact lo
    have st : ∀ y : Int, setD (di mixed) (.int ((i % rest.length : Nat) : Int)) (.int y) = .ok (di (mixed.set (i % rest.length) y)) := fun y => setD_i hk2
    have g3 : ∀ y : Int, dIx (di (mixed.set (i % rest.length) y)) (.int ((i % rest.length : Nat) : Int)) = .ok (.int y) := fun y => by
      have z := dIx_i (xs := mixed.set (i % rest.length) y) (k := i % rest.length) (by rw [List.length_set]; exact hk2)
      rw [z, List.getElem_set_self]
    refine ⟨[S, A, some (di rest), x, some (di (mixed.set (i % rest.length) ((mixed[i % rest.length] * 16807 + 12345 + 7919 * ((0 : Int) + (i : Int))) % 2147483647))), some (di (out ++ [(rest[i % rest.length] + (mixed[i % rest.length] * 16807 + 12345 + 7919 * ((0 : Int) + (i : Int))) % 2147483647 / 5) % 65536])), some (.int ((0 : Int) + (i : Int))), some (.int ((i % rest.length : Nat) : Int))], rfl, ?_, ?_⟩
    · unfold nBody
      rw [ev_seq a1]
      simp only [gIfS, ev_b, ev_bin, ev_var, lk_s, lk_0, ev_c, Rs.bind, g1, g2, g3, p18, dGe_i, q1, ev_asB, if_false, Bool.false_eq_true, gSeq, gDrop, gApp, ev_pure, ev_cb, ev_cons, ev_nil, dInt_i, m1, m2, lo2, if_true, gSetI, List.set_cons_succ, List.set_cons_zero, v1, st, dMul_i u1, dMul_i u2, dAdd_i]
      simp [List.map_append]
    · refine ⟨_, _, _, _, _, _, rfl, by rw [List.length_set]; exact h1, h2, h3, fun z hz => ?_, by rw [List.length_append, h5]; rfl, fun z hz => ?_⟩
      · rcases List.mem_or_eq_of_mem_set hz with hz | hz
        · exact h4 z hz
        · rw [hz]
          omega
      · rcases List.mem_append.mp hz with hz | hz
        · exact h6 z hz
        · rw [List.mem_singleton.mp hz]
          omega
end M
end

/-! text L9 -/
section
set_option maxRecDepth 100000
set_option maxHeartbeats 4000000
namespace M
open PySem DL
theorem lc_abs {ns : List Int} (hl : ns.length ≤ 63) : gLc (gSeqI (gSl (gVar 0) gNoPart (gPart (gC (.int 63))))) (gtName 3) gYes (gCB dAbs (aCons (gVar 3) aNil)) [3] [some (di ns), some (.int 170), none, none, none, none, none, none] = .ok (di (ns.map ab)) := by
  have e1 : gSeqI (gSl (gVar 0) gNoPart (gPart (gC (.int 63)))) [some (di ns), some (.int 170), none, none, none, none, none, none] = .ok (ns.map DV.int) := by
    have c : cutD (ns.map DV.int) none (some (63 : Int)) = ns.map DV.int := by
      rw [show (63 : Int) = ((63 : Nat) : Int) from rfl, cut_front, List.take_of_length_le (by rw [List.length_map]; exact hl)]
    simp only [gSeqI, gSl, ev_var, lk_0, Rs.bind, gNoPart, gPart, ev_c, dSl, c]
    rfl
  unfold gLc
  rw [e1]
  show (if (ns.map DV.int).length ≤ sizeLine then _ else _) = _
  rw [if_pos (by rw [List.length_map, sz_eq]; omega)]
  rw [lcLoop_map (f := ab) fun x _ => rfl]
theorem lc_mix {rest : List Int} {A B : Option DV} (h3 : rest.length ≤ 64) : gLc (gSeqI (gVar 2)) (gtName 3) gYes (gBin dMod (gCB dInt (aCons (gBin dAdd (gBin dMul (gVar 3) (gC (.int 48271))) (gC (.int 11))) aNil)) (gC (.int 2147483647))) [3] [A, B, some (di rest), none, none, none, none, none] = .ok (di (rest.map fun c => (c * 48271 + 11) % 2147483647)) := by
  have u : ∀ c : Int, mulOk c 48271 = true := fun c => by
    unfold mulOk
    rw [decide_eq_true (by decide : (48271 : Int).natAbs < 2 ^ 64), Bool.true_or, Bool.or_true]
  unfold gLc
  show (if (rest.map DV.int).length ≤ sizeLine then _ else _) = _
  rw [if_pos (by rw [List.length_map, sz_eq]; omega)]
  rw [lcLoop_map (f := fun c => (c * 48271 + 11) % 2147483647) fun x _ => by
    have m : ∀ z : Int, dMod (.int z) (.int 2147483647) = .ok (.int (z % 2147483647)) := fun z => dMod_i (by decide)
    simp only [lcTurn, gtName, wipeD, gYes, Rs.bind, List.set_cons_succ, List.set_cons_zero, ev_bin, ev_cb, ev_cons, ev_nil, ev_var, lk_s, lk_0, ev_c, dMul_i (u x), dAdd_i, dInt_i, m, if_true]]
end M
end

/-! text L10 -/
section
set_option maxRecDepth 100000
set_option maxHeartbeats 4000000
namespace M
open PySem DL
theorem forG_rngB {tg : GG} {b : GS} (N : Nat) (I : Nat → EnvD → Prop) (hi : ∀ (i : Nat) (ρ : EnvD), i < N → I i ρ → ∃ ρ1 ρ2, tg (.int ((0 : Int) + (i : Int))) ρ = .ok ρ1 ∧ b ρ1 = .nx ρ2 ∧ I (i + 1) ρ2)
    (n i : Nat) (ρ : EnvD) (hn : i + n ≤ N) (h : I i ρ) : ∃ ρ', forG tg b ((List.range' i n).map fun k : Nat => DV.int ((0 : Int) + (k : Int))) ρ = .nx ρ' ∧ I (i + n) ρ' := by
  induction n generalizing i ρ with
  | zero => exact ⟨ρ, rfl, h⟩
  | succ n ih =>
    obtain ⟨ρ1, ρ2, e1, e2, h2⟩ := hi i ρ (by omega) h
    obtain ⟨ρ', e3, h3⟩ := ih (i + 1) ρ2 (by omega) h2
    refine ⟨ρ', ?_, by rw [show i + (n + 1) = i + 1 + n by omega]; exact h3⟩
    rw [List.range'_succ, List.map_cons]
    unfold forG
    rw [e1]
    dsimp only
    rw [e2]
    exact e3
abbrev rest0 (ns : List Int) : List Int := if ns = [] then [0] else ns.map ab
theorem rest0_len {ns : List Int} (hl : ns.length ≤ 63) : 0 < (rest0 ns).length ∧ (rest0 ns).length ≤ 64 := by
  unfold rest0
  split
  · exact ⟨by decide, by decide⟩
  · rename_i h
    rw [List.length_map]
    exact ⟨List.length_pos_iff.mpr h, by omega⟩
theorem numbers_ok {ns : List Int} (hl : ns.length ≤ 63) : ∃ xs : List Int, m__law_numbers [di ns, .int 170] = .ok (di xs) ∧ xs.length = 170 ∧ ∀ z ∈ xs, 0 ≤ z ∧ z < 65536 := by
  obtain ⟨r1, r2⟩ := rest0_len hl
  have s1 : gAsg (gPure (gBin dAdd (gLc (gSeqI (gSl (gVar 0) gNoPart (gPart (gC (.int 63))))) (gtName 3) gYes (gCB dAbs (aCons (gVar 3) aNil)) [3]) (eLst (aCons (gC (.int 0)) aNil)))) (gtName 2) [some (di ns), some (.int 170), none, none, none, none, none, none] = .nx [some (di ns), some (.int 170), some (di (ns.map ab ++ [0])), none, none, none, none, none] := by
    have a : dAdd (di (ns.map ab)) (.lst [.int 0]) = .ok (di (ns.map ab ++ [0])) := by
      have : ((ns.map ab).map DV.int).length + ([DV.int 0] : List DV).length ≤ sizeLine := by
        rw [List.length_map, List.length_map, sz_eq]
        show ns.length + 1 ≤ _
        omega
      show (match (match (Rs.stuck : Rs DV) with | .stuck => (match dCat (di (ns.map ab)) (.lst [.int 0]) with | .stuck => dCatS (di (ns.map ab)) (.lst [.int 0]) | r => r) | r => r) with | r => r) = _
      simp only [dCat, this, if_true]
      simp [List.map_append]
    have l1 : ([DV.int 0] : List DV).length ≤ sizeLine := by decide
    simp only [gAsg, ev_pure, ev_bin, lc_abs hl, Rs.bind, ev_lst, ev_cons, ev_nil, ev_c, l1, if_true, a, gtName]
    rfl
  have s2 : ∀ k : GS, gSeq (gIfS (gB (gBin dGt (gCB dLen (aCons (gVar 0) aNil)) (gC (.int 0)))) (gAsg (gPure (gSl (gVar 2) gNoPart (gPart (gUn dNeg (gC (.int 1)))))) (gtName 2)) gNext) k [some (di ns), some (.int 170), some (di (ns.map ab ++ [0])), none, none, none, none, none] = k [some (di ns), some (.int 170), some (di (rest0 ns)), none, none, none, none, none] := fun k => by
    have t1 : gB (gBin dGt (gCB dLen (aCons (gVar 0) aNil)) (gC (.int 0))) [some (di ns), some (.int 170), some (di (ns.map ab ++ [0])), none, none, none, none, none] = .ok (decide (0 < (ns.length : Int))) := by
      simp only [ev_b, ev_bin, ev_cb, ev_cons, ev_nil, ev_var, lk_0, Rs.bind, dLen_i, ev_c, dGt_i, ev_asB]
    refine ev_seq ?_
    rw [ev_ifS t1]
    by_cases h : ns = []
    · subst h
      rfl
    · have hp := List.length_pos_iff.mpr h
      rw [if_pos (decide_eq_true (by omega))]
      have c : cutD ((ns.map ab ++ [0]).map DV.int) none (some (-1)) = (rest0 ns).map DV.int := by
        rw [cut_last, ← List.map_take]
        unfold rest0
        rw [if_neg h]
        congr 1
        simp
      simp only [gAsg, ev_pure, gSl, ev_var, lk_s, lk_0, Rs.bind, gNoPart, gPart, ev_un, ev_c, dNeg_i, dSl, c, gtName]
      rfl
  have s3 : gAsg (gPure (gLc (gSeqI (gVar 2)) (gtName 3) gYes (gBin dMod (gCB dInt (aCons (gBin dAdd (gBin dMul (gVar 3) (gC (.int 48271))) (gC (.int 11))) aNil)) (gC (.int 2147483647))) [3])) (gtName 4) [some (di ns), some (.int 170), some (di (rest0 ns)), none, none, none, none, none] = .nx [some (di ns), some (.int 170), some (di (rest0 ns)), none, some (di ((rest0 ns).map fun c => (c * 48271 + 11) % 2147483647)), none, none, none] := by
    simp only [gAsg, ev_pure, lc_mix r2, Rs.bind, gtName]
    rfl
  have s4 : ∀ ρ, gAsg (gPure (eLst aNil)) (gtName 5) ρ = .nx (ρ.set 5 (some (di []))) := fun ρ => rfl
  obtain ⟨ρ', f1, rest, mixed, out, x, t, u, e0, _, _, _, _, h5, h6⟩ := forG_rngB (tg := gtName 6) (b := nBody) 170 (NI (some (di ns)) (some (.int 170))) (fun i ρ hi h => n_turn (by omega) h) 170 0 [some (di ns), some (.int 170), some (di (rest0 ns)), none, some (di ((rest0 ns).map fun c => (c * 48271 + 11) % 2147483647)), some (di []), none, none] (by omega)
    ⟨rest0 ns, (rest0 ns).map fun c => (c * 48271 + 11) % 2147483647, [], none, none, none, rfl, by rw [List.length_map], r1, r2, fun z hz => by
      obtain ⟨c, _, rfl⟩ := List.mem_map.mp hz
      omega, rfl, fun z hz => by simp at hz⟩
  have s5 : gFor (gRng1 (aCons (gVar 1) aNil)) (gtName 6) nBody [some (di ns), some (.int 170), some (di (rest0 ns)), none, some (di ((rest0 ns).map fun c => (c * 48271 + 11) % 2147483647)), some (di []), none, none] = .nx ρ' := by
    unfold gFor
    have e2 : gRng1 (aCons (gVar 1) aNil) [some (di ns), some (.int 170), some (di (rest0 ns)), none, some (di ((rest0 ns).map fun c => (c * 48271 + 11) % 2147483647)), some (di []), none, none] = .ok (rngD 0 170) := rfl
    rw [e2]
    dsimp only
    rw [rngD_eq]
    exact f1
  refine ⟨out, ?_, by omega, h6⟩
  unfold m__law_numbers runB b__law_numbers
  show finB (gSeq _ _ [some (di ns), some (.int 170), none, none, none, none, none, none]) = _
  rw [ev_seq s1, s2, ev_seq s3, ev_seq (s4 _)]
  show finB (gSeq (gFor _ _ nBody) (gRet (gMove 5)) [some (di ns), some (.int 170), some (di (rest0 ns)), none, some (di ((rest0 ns).map fun c => (c * 48271 + 11) % 2147483647)), some (di []), none, none]) = _
  rw [ev_seq s5, e0]
  rfl
end M
end

/-! text Q1 -/
section
set_option maxRecDepth 100000
set_option maxHeartbeats 4000000
namespace M
open PySem DL
abbrev dp (zs : List (Int × Int)) : DV := .lst (zs.map pr)
/-- small enough to be added -/
def Gd (z : Int × Int) : Prop := z.1.natAbs < 2 ^ 31 ∧ z.2.natAbs < 2 ^ 31 ∧ 0 < z.2
theorem Gd.sm {z : Int × Int} (h : Gd z) : Sm z := ⟨Nat.lt_of_lt_of_le h.1 (Nat.pow_le_pow_right (by decide) (by decide)), Nat.lt_of_lt_of_le h.2.1 (Nat.pow_le_pow_right (by decide) (by decide))⟩
theorem den9 {b : Int} (h : b.natAbs < 2 ^ 1999) : b.natAbs.log2 < 9000 := Nat.lt_of_lt_of_le (PySem.Flt.log2_lt_of (by decide) h) (by decide)
theorem pw {m n : Nat} : (2 : Nat) ^ (m + n) = 2 ^ m * 2 ^ n := Nat.pow_add ..
theorem sum_sz {x y : Int × Int} {k : Nat} (hx1 : x.1.natAbs < 2 ^ (32 * k + 1)) (hx2 : x.2.natAbs < 2 ^ (32 * k + 1)) (hy : Gd y) :
    (x.1 * y.2 + y.1 * x.2).natAbs < 2 ^ (32 * (k + 1) + 1) ∧ (x.2 * y.2).natAbs < 2 ^ (32 * (k + 1) + 1) := by
  have h1 : (x.1 * y.2).natAbs < 2 ^ (32 * k + 1 + 31) := by
    rw [Int.natAbs_mul, pw]
    exact Nat.mul_lt_mul'' hx1 hy.2.1
  have h2 : (y.1 * x.2).natAbs < 2 ^ (31 + (32 * k + 1)) := by
    rw [Int.natAbs_mul, pw]
    exact Nat.mul_lt_mul'' hy.1 hx2
  have h3 : (x.2 * y.2).natAbs < 2 ^ (32 * k + 1 + 31) := by
    rw [Int.natAbs_mul, pw]
    exact Nat.mul_lt_mul'' hx2 hy.2.1
  have q1 : (2 : Nat) ^ (32 * k + 1 + 31) ≤ 2 ^ (32 * k + 32) := Nat.pow_le_pow_right (by decide) (by omega)
  have q2 : (2 : Nat) ^ (31 + (32 * k + 1)) ≤ 2 ^ (32 * k + 32) := Nat.pow_le_pow_right (by decide) (by omega)
  have q3 : (2 : Nat) ^ (32 * (k + 1) + 1) = 2 * 2 ^ (32 * k + 32) := by
    rw [show 32 * (k + 1) + 1 = 1 + (32 * k + 32) by omega, pw]
  refine ⟨?_, Nat.lt_of_lt_of_le h3 (Nat.pow_le_pow_right (by decide) (by omega))⟩
  rw [q3]
  have := Int.natAbs_add_le (x.1 * y.2) (y.1 * x.2)
  omega
/-- one more -/
def fp (x y : Int × Int) : Int × Int := low (x.1 * y.2 + y.1 * x.2) (x.2 * y.2)
/-- the sum, taken from the left -/
def asum (x : Int × Int) (zs : List (Int × Int)) : Int × Int := zs.foldl fp x
def aBody : GS := gAsg (gPure (gCB m_plus (aCons (gVar 1) (aCons (gVar 2) aNil)))) (gtName 1)
def lBody : GS := gAsg (gPure (gCB m__law_plus (aCons (gVar 1) (aCons (gVar 2) aNil)))) (gtName 1)
theorem forG_cons {tg : GG} {b : GS} {d : DV} {ds : List DV} {ρ ρ1 ρ2 : EnvD} (h1 : tg d ρ = .ok ρ1) (h2 : b ρ1 = .nx ρ2) : forG tg b (d :: ds) ρ = forG tg b ds ρ2 := by
  conv => lhs; unfold forG
  rw [h1]
  dsimp only
  rw [h2]
theorem forG_consR {tg : GG} {b : GS} {d e : DV} {ds : List DV} {ρ ρ1 ρ2 : EnvD} (h1 : tg d ρ = .ok ρ1) (h2 : b ρ1 = .rt e ρ2) : forG tg b (d :: ds) ρ = .rt e ρ2 := by
  conv => lhs; unfold forG
  rw [h1]
  dsimp only
  rw [h2]
theorem sums {A : Option DV} : ∀ (zs : List (Int × Int)) (k : Nat) (x : Int × Int) (t u : Option DV), (∀ z ∈ zs, Gd z) → k + zs.length ≤ 40 → x.1.natAbs < 2 ^ (32 * k + 1) → x.2.natAbs < 2 ^ (32 * k + 1) → 0 < x.2 →
    ∃ (t' u' : Option DV), forG (gtName 2) aBody (zs.map pr) [A, some (pr x), t] = .nx [A, some (pr (asum x zs)), t'] ∧ forG (gtName 2) lBody (zs.map pr) [A, some (pr x), u] = .nx [A, some (pr (asum x zs)), u']
  | [], k, x, t, u, _, _, _, _, _ => ⟨t, u, rfl, rfl⟩
  | z :: zs, k, x, t, u, hz, hl, h1, h2, h3 => by
    have gz := hz z List.mem_cons_self
    obtain ⟨s1, s2⟩ := sum_sz h1 h2 gz
    have hl2 : k + 1 + zs.length ≤ 40 := by simp at hl; omega
    have n0 : x.2 * z.2 ≠ 0 := Int.mul_ne_zero (by omega) (by have := gz.2.2; omega)
    have b1 : (x.2 * z.2).natAbs < 2 ^ 1999 := Nat.lt_of_lt_of_le s2 (Nat.pow_le_pow_right (by decide) (by omega))
    have sx : Sm x := ⟨Nat.lt_of_lt_of_le h1 (Nat.pow_le_pow_right (by decide) (by omega)), Nat.lt_of_lt_of_le h2 (Nat.pow_le_pow_right (by decide) (by omega))⟩
    have e1 : m_plus [pr x, pr z] = .ok (pr (fp x z)) := by rw [plus_e sx gz.sm, fraction_ok n0 (den9 b1)]; rfl
    have e2 : m__law_plus [pr x, pr z] = .ok (pr (fp x z)) := by rw [lplus_e sx gz.sm, lowest_ok n0 b1]; rfl
    have l0 : 0 < (fp x z).2 := low_pos (p := x.1 * z.2 + z.1 * x.2) n0
    have ls : Sz _ _ (fp x z) := low_sz n0 s1 s2
    obtain ⟨t', u', f1, f2⟩ := sums (A := A) zs (k + 1) (fp x z) (some (pr z)) (some (pr z)) (fun w hw => hz w (List.mem_cons_of_mem _ hw)) hl2 ls.1 ls.2 l0
    have c1 : aBody [A, some (pr x), some (pr z)] = .nx [A, some (pr (fp x z)), some (pr z)] := by
      unfold aBody
      simp only [gAsg, gtName, ev_pure, ev_cb, ev_cons, ev_nil, ev_var, lk_s, lk_0, Rs.bind, e1]
      rfl
    have c2 : lBody [A, some (pr x), some (pr z)] = .nx [A, some (pr (fp x z)), some (pr z)] := by
      unfold lBody
      simp only [gAsg, gtName, ev_pure, ev_cb, ev_cons, ev_nil, ev_var, lk_s, lk_0, Rs.bind, e2]
      rfl
    refine ⟨t', u', ?_, ?_⟩
    · rw [List.map_cons, forG_cons (ρ1 := [A, some (pr x), some (pr z)]) rfl c1]
      exact f1
    · rw [List.map_cons, forG_cons (ρ1 := [A, some (pr x), some (pr z)]) rfl c2]
      exact f2
theorem added_ok {zs : List (Int × Int)} (h : ∀ z ∈ zs, Gd z) (hl : zs.length ≤ 40) : m_added [dp zs] = .ok (pr (asum (0, 1) zs)) ∧ m__law_added [dp zs] = .ok (pr (asum (0, 1) zs)) := by
  obtain ⟨t', u', f1, f2⟩ := sums (A := some (dp zs)) zs 0 (0, 1) none none h (by omega) (by decide) (by decide) (by decide)
  have sq : ∀ ρ : EnvD, lk ρ 0 = .ok (dp zs) → gSeqI (gVar 0) ρ = .ok (zs.map pr) := fun ρ h => by
    unfold gSeqI
    rw [ev_var, h]
    rfl
  constructor
  · unfold m_added runB b_added
    have s1 : gAsg (gPure (gC (.tup [(.int 0), (.int 1)]))) (gtName 1) [some (dp zs), none, none] = .nx [some (dp zs), some (pr (0, 1)), none] := rfl
    show finB (gSeq _ _ [some (dp zs), none, none]) = _
    rw [ev_seq s1]
    have s2 : gFor (gSeqI (gVar 0)) (gtName 2) aBody [some (dp zs), some (pr (0, 1)), none] = .nx [some (dp zs), some (pr (asum (0, 1) zs)), t'] := by
      unfold gFor
      rw [sq _ rfl]
      exact f1
    show finB (gSeq (gFor (gSeqI (gVar 0)) (gtName 2) aBody) _ [some (dp zs), some (pr (0, 1)), none]) = _
    rw [ev_seq s2]
    rfl
  · unfold m__law_added runB b__law_added
    have s1 : gAsg (gPure (eTup (aCons (gC (.int 0)) (aCons (gC (.int 1)) aNil)))) (gtName 1) [some (dp zs), none, none] = .nx [some (dp zs), some (pr (0, 1)), none] := by
      have l2 : 0 + 1 + 1 ≤ sizeLine := by decide
      simp only [gAsg, gtName, ev_pure, ev_tup, ev_cons, ev_nil, ev_c, Rs.bind, List.length_cons, List.length_nil, l2, if_true]
      rfl
    show finB (gSeq _ _ [some (dp zs), none, none]) = _
    rw [ev_seq s1]
    have s2 : gFor (gSeqI (gVar 0)) (gtName 2) lBody [some (dp zs), some (pr (0, 1)), none] = .nx [some (dp zs), some (pr (asum (0, 1) zs)), u'] := by
      unfold gFor
      rw [sq _ rfl]
      exact f2
    show finB (gSeq (gFor (gSeqI (gVar 0)) (gtName 2) lBody) _ [some (dp zs), some (pr (0, 1)), none]) = _
    rw [ev_seq s2]
    rfl
end M
end

/-! text J1 -/
section
set_option maxRecDepth 100000
set_option maxHeartbeats 4000000
namespace M
open PySem DL
theorem lcLoop_gen {α : Type} {h : DV → Rs (Option DV)} {g : α → DV} {f : α → DV} : ∀ {xs : List α}, (∀ x ∈ xs, h (g x) = .ok (some (f x))) → lcLoop h (xs.map g) = .ok (xs.map f)
  | [], _ => rfl
  | x :: xs, k => by
    rw [List.map_cons, List.map_cons]
    unfold lcLoop
    rw [k x List.mem_cons_self]
    dsimp only [Rs.bind]
    rw [lcLoop_gen (xs := xs) fun y hy => k y (List.mem_cons_of_mem _ hy)]
    rfl
theorem lcLoop_rng {h : DV → Rs (Option DV)} {n : Nat} {f : Nat → DV} (k : ∀ i, i < n → h (.int ((0 : Int) + (i : Int))) = .ok (some (f i))) : lcLoop h (rngD 0 n) = .ok ((List.range n).map f) := by
  unfold rngD
  exact lcLoop_gen (g := fun i : Nat => DV.int ((0 : Int) + (i : Int))) fun i hi => k i (List.mem_range.mp hi)
theorem dIx_g {α : Type} {g : α → DV} {xs : List α} {z : Int} (k : Nat) (e : z = (k : Int)) (h : k < xs.length) : dIx (.lst (xs.map g)) (.int z) = .ok (g xs[k]) := by
  subst e
  unfold dIx L2.atI
  simp only [List.length_map]
  rw [ixN_nat h]
  simp [ofO, h]
theorem dLen_g {α : Type} {g : α → DV} {xs : List α} : dLen [.lst (xs.map g)] = .ok (.int xs.length) := by
  simp [dLen]
theorem getD_lt {α : Type} {l : List α} {i : Nat} {d : α} (h : i < l.length) : l.getD i d = l[i] := by
  rw [List.getD_eq_getElem?_getD, List.getElem?_eq_getElem h]
  rfl
theorem mulT {a b : Int} (h : a.natAbs ≤ 1000) : mulOk a b = true := by
  unfold mulOk
  rw [decide_eq_true (Nat.lt_of_le_of_lt h (by decide)), Bool.true_or]
theorem gi_low {p q : Int} (h : q ≠ 0) : gi (low p q).1 (low p q).2 = 1 := by
  unfold low
  split
  · have g2 : gi (-p) (-q) = gi p q := by simp [gi]
    have z := gi_div (p := -p) (q := -q) (by omega)
    rw [g2] at z
    exact z
  · exact gi_div h
theorem low_cross {p q : Int} (h : q ≠ 0) : (low p q).1 * q = p * (low p q).2 := by
  have g0 := gi_pos (p := p) h
  have gn : gi p q ≠ 0 := by omega
  obtain ⟨a, ha⟩ := gi_dl p q
  obtain ⟨b, hb⟩ := gi_dr p q
  generalize hg : gi p q = g at *
  unfold low
  rw [hg]
  split
  · show -p / g * q = p * (-q / g)
    have e1 : -p / g = -a := by rw [ha, ← Int.mul_neg, Int.mul_ediv_cancel_left _ gn]
    have e2 : -q / g = -b := by rw [hb, ← Int.mul_neg, Int.mul_ediv_cancel_left _ gn]
    rw [e1, e2, ha, hb]
    grind
  · show p / g * q = p * (q / g)
    have e1 : p / g = a := by rw [ha, Int.mul_ediv_cancel_left _ gn]
    have e2 : q / g = b := by rw [hb, Int.mul_ediv_cancel_left _ gn]
    rw [e1, e2, ha, hb]
    grind
theorem lenG {α : Type} {g : α → DV} {xs : List α} (h : xs.length ≤ 1000) : (xs.map g).length ≤ sizeLine := by rw [List.length_map, sz_eq]; omega
theorem ev_for {gi : GI} {tg : GG} {b : GS} {ρ ρ' : EnvD} {its : List DV} (h1 : gi ρ = .ok its) (h2 : forG tg b its ρ = .nx ρ') : gFor gi tg b ρ = .nx ρ' := by
  unfold gFor
  rw [h1]
  exact h2
theorem ev_forR {gi : GI} {tg : GG} {b : GS} {ρ ρ' : EnvD} {its : List DV} {d : DV} (h1 : gi ρ = .ok its) (h2 : forG tg b its ρ = .rt d ρ') : gFor gi tg b ρ = .rt d ρ' := by
  unfold gFor
  rw [h1]
  exact h2
theorem ev_lc {gi : GI} {tg : GG} {gt : GT} {ge : GE} {vs : List Nat} {ρ : EnvD} {its r : List DV} (h1 : gi ρ = .ok its) (h2 : its.length ≤ sizeLine) (h3 : lcLoop (lcTurn tg gt ge (wipeD ρ vs)) its = .ok r) : gLc gi tg gt ge vs ρ = .ok (.lst r) := by
  unfold gLc
  rw [h1]
  show (if its.length ≤ sizeLine then _ else _) = _
  rw [if_pos h2, h3]
theorem rng_i {i : Int} {n : Nat} (e : i = (n : Int)) (h : n ≤ 1000) : dRng1 [.int i] = .ok (rngD 0 n) := by
  subst e
  have ro : rngOk (n : Int) = true := by unfold rngOk; simp; omega
  unfold dRng1
  dsimp only
  rw [if_pos ro]
  rfl
theorem rng1_e {g : GE} {ρ : EnvD} {i : Int} {n : Nat} (e : g ρ = .ok (.int i)) (e2 : i = (n : Int)) (h : n ≤ 1000) : gRng1 (aCons g aNil) ρ = .ok (rngD 0 n) := by
  unfold gRng1
  rw [ev_cons, e]
  exact rng_i e2 h
theorem rngD_len {n : Nat} (h : n ≤ 1000) : (rngD 0 n).length ≤ sizeLine := by unfold rngD; rw [List.length_map, List.length_range, sz_eq]; omega
theorem len_e {α : Type} {g : α → DV} {xs : List α} {ρ : EnvD} {i : Nat} (e : lk ρ i = .ok (.lst (xs.map g))) : gCB dLen (aCons (gVar i) aNil) ρ = .ok (.int xs.length) := by
  rw [ev_cb, ev_cons, ev_var, e]
  exact dLen_g
theorem ev_skip {t : GT} {f k : GS} {ρ : EnvD} (h : t ρ = .ok false) : gSeq (gIfS t f gNext) k ρ = k ρ := ev_seq (by rw [ev_ifS h]; rfl)
theorem ix3_0 {a b c : DV} : dIx (.tup [a, b, c]) (.int 0) = .ok a := rfl
theorem ix3_1 {a b c : DV} : dIx (.tup [a, b, c]) (.int 1) = .ok b := rfl
theorem ix3_2 {a b c : DV} : dIx (.tup [a, b, c]) (.int 2) = .ok c := rfl
section
variable {ρ : EnvD} {a b c g : GE} {o : OpA} {x y z d : DV} {i : Nat}
theorem cb1 (h : a ρ = .ok x) : gCB o (aCons a aNil) ρ = o [x] := by
  rw [ev_cb, ev_cons, h]
  rfl
theorem cb2 (h : a ρ = .ok x) (h2 : b ρ = .ok y) : gCB o (aCons a (aCons b aNil)) ρ = o [x, y] := by
  rw [ev_cb, ev_cons, h, ev_cons, h2]
  rfl
theorem cb3 (h : a ρ = .ok x) (h2 : b ρ = .ok y) (h3 : c ρ = .ok z) : gCB o (aCons a (aCons b (aCons c aNil))) ρ = o [x, y, z] := by
  rw [ev_cb, ev_cons, h, ev_cons, h2, ev_cons, h3]
  rfl
theorem ret_e (h : g ρ = .ok d) : gRet (gPure g) ρ = .rt d ρ := ev_ret (by rw [ev_pure, h])
theorem set_e (h : g ρ = .ok d) : gAsg (gPure g) (gtName i) ρ = .nx (ρ.set i (some d)) := ev_asg (by rw [ev_pure, h])
theorem nx_e (h : g ρ = .ok d) : gNX g ρ = .ok d := by
  unfold gNX
  rw [h]
theorem drop_e (h : g ρ = .ok d) : gDrop (gPure g) ρ = .nx ρ := by
  unfold gDrop
  rw [ev_pure, h]
theorem drop_x {cn : Str} (h : g ρ = .ex cn d) : gDrop (gPure g) ρ = .ex cn d := by
  unfold gDrop
  rw [ev_pure, h]
theorem lenD_e {α : Type} {f : α → DV} {xs : List α} (e : a ρ = .ok (.lst (xs.map f))) : gCB dLen (aCons a aNil) ρ = .ok (.int xs.length) := by
  rw [cb1 e]
  exact dLen_g
theorem ne_e {u v : Int} (h : a ρ = .ok (.int u)) (h2 : b ρ = .ok (.int v)) : gB (gBin dNe a b) ρ = .ok (!decide (u = v)) := by
  rw [ev_b, ev_bin, h]
  dsimp only [Rs.bind]
  rw [h2]
  dsimp only [Rs.bind]
  rw [dNe_i]
  rfl
end
theorem seq_e {α : Type} {g : GE} {f : α → DV} {xs : List α} {ρ : EnvD} (e : g ρ = .ok (.lst (xs.map f))) : gSeqI g ρ = .ok (xs.map f) := by
  unfold gSeqI
  rw [e]
  rfl
theorem tup2 {a b : GE} {ρ : EnvD} {x y : DV} (h1 : a ρ = .ok x) (h2 : b ρ = .ok y) : eTup (aCons a (aCons b aNil)) ρ = .ok (.tup [x, y]) := by
  rw [ev_tup, ev_cons, h1, ev_cons, h2]
  show (if 0 + 1 + 1 ≤ sizeLine then _ else _) = _
  rw [if_pos (by decide)]
theorem bin_e {o : OpD} {a b : GE} {ρ : EnvD} {x y : DV} (h1 : a ρ = .ok x) (h2 : b ρ = .ok y) : gBin o a b ρ = o x y := by
  rw [ev_bin, h1]
  dsimp only [Rs.bind]
  rw [h2]
theorem b_e {a : GE} {ρ : EnvD} {z : Bool} (h : a ρ = .ok (.bl z)) : gB a ρ = .ok z := by
  rw [ev_b, h]
  rfl
theorem notV_e {a : GE} {ρ : EnvD} {z : Bool} (h : a ρ = .ok (.bl z)) : gNotV a ρ = .ok (.bl (!z)) := by
  rw [ev_notV, h]
  rfl
theorem and_e {s t : GT} {ρ : EnvD} {x y : Bool} (h1 : s ρ = .ok x) (h2 : t ρ = .ok y) : gAnd s t ρ = .ok (x && y) := by
  unfold gAnd
  rw [h1]
  cases x
  · rfl
  · exact h2
theorem or_e {s t : GT} {ρ : EnvD} {x y : Bool} (h1 : s ρ = .ok x) (h2 : t ρ = .ok y) : gOr s t ρ = .ok (x || y) := by
  unfold gOr
  rw [h1]
  cases x
  · exact h2
  · rfl
theorem lc_yes {tg : GG} {gt : GT} {ge : GE} {ρ ρ1 : EnvD} {d x : DV} (h1 : tg d ρ = .ok ρ1) (h2 : gt ρ1 = .ok true) (h3 : ge ρ1 = .ok x) : lcTurn tg gt ge ρ d = .ok (some x) := by
  unfold lcTurn
  rw [h1]
  dsimp only [Rs.bind]
  rw [h2]
  dsimp only
  rw [if_pos rfl, h3]
theorem lc_no {tg : GG} {gt : GT} {ge : GE} {ρ ρ1 : EnvD} {d : DV} (h1 : tg d ρ = .ok ρ1) (h2 : gt ρ1 = .ok false) : lcTurn tg gt ge ρ d = .ok none := by
  unfold lcTurn
  rw [h1]
  dsimp only [Rs.bind]
  rw [h2]
  dsimp only
  rw [if_neg (by decide)]
theorem lcLoop_none {α : Type} {h : DV → Rs (Option DV)} {g : α → DV} : ∀ {xs : List α}, (∀ x ∈ xs, h (g x) = .ok none) → lcLoop h (xs.map g) = .ok []
  | [], _ => rfl
  | x :: xs, k => by
    rw [List.map_cons]
    unfold lcLoop
    rw [k x List.mem_cons_self]
    dsimp only [Rs.bind]
    rw [lcLoop_none (xs := xs) fun y hy => k y (List.mem_cons_of_mem _ hy)]
    rfl
theorem app_g {α : Type} {g : α → DV} {xs : List α} {x : α} {i : Nat} {ρ : EnvD} {ge : GE} (h1 : lk ρ i = .ok (.lst (xs.map g))) (h2 : ge ρ = .ok (g x)) (h : xs.length ≤ 1000) : gDrop (gApp i (gPure ge)) ρ = .nx (ρ.set i (some (.lst ((xs ++ [x]).map g)))) := by
  unfold gDrop gApp
  rw [h1]
  dsimp only
  rw [ev_pure, h2]
  dsimp only [Rs.bind]
  rw [h1]
  dsimp only
  rw [if_pos (by rw [List.length_map, sz_eq]; omega), List.map_append]
  rfl
theorem tup3 {a b c : GE} {ρ : EnvD} {x y z : DV} (h1 : a ρ = .ok x) (h2 : b ρ = .ok y) (h3 : c ρ = .ok z) : eTup (aCons a (aCons b (aCons c aNil))) ρ = .ok (.tup [x, y, z]) := by
  rw [ev_tup, ev_cons, h1, ev_cons, h2, ev_cons, h3]
  show (if 0 + 1 + 1 + 1 ≤ sizeLine then _ else _) = _
  rw [if_pos (by decide)]
theorem md {z n : Int} (h : 0 < n) : dMod (.int z) (.int n) = .ok (.int (z % n)) := dMod_i h
theorem eqv_all : ∀ {zs : List (Int × Int)}, PyData.eqvAll (pys (zs.map pr)) (pys (zs.map pr)) = true
  | [] => by simp [pys, PyData.eqvAll]
  | z :: zs => by
    show PyData.eqvAll (py (pr z) :: pys (zs.map pr)) (py (pr z) :: pys (zs.map pr)) = true
    unfold PyData.eqvAll
    have e : eqv (pr z) (pr z) = true := by rw [eqv_pr, decide_eq_true rfl]
    have e : PyData.eqv (py (pr z)) (py (pr z)) = true := e
    rw [e, eqv_all (zs := zs)]
    rfl
theorem eqoks_dp : ∀ {zs : List (Int × Int)}, eqoks (zs.map pr) 19 = true
  | [] => rfl
  | z :: zs => by
    show (eqok (pr z) 19 && eqoks (zs.map pr) 19) = true
    rw [eqoks_dp (zs := zs)]
    rfl
theorem ne_dp {zs : List (Int × Int)} : dNe (dp zs) (dp zs) = .ok (.bl false) := by
  have q : eqok (dp zs) 20 = true := eqoks_dp
  unfold dNe
  rw [q, if_pos (by rfl)]
  have e : eqv (dp zs) (dp zs) = true := by
    show PyData.eqv (.list (pys (zs.map pr))) (.list (pys (zs.map pr))) = true
    unfold PyData.eqv
    exact eqv_all
  rw [e]
  rfl
theorem ne_pr {z : Int × Int} : dNe (pr z) (pr z) = .ok (.bl false) := by
  rw [dNe_pr, decide_eq_true rfl]
  rfl
theorem ne_bl {x : Bool} : dNe (.bl x) (.bl x) = .ok (.bl false) := by cases x <;> rfl
theorem chain_lt {a b c : GE} {ρ : EnvD} {x y z : Int} (h1 : a ρ = .ok (.int x)) (h2 : b ρ = .ok (.int y)) (h3 : c ρ = .ok (.int z)) : gChain dLe dLt a b c ρ = .ok (.bl (decide (x ≤ y) && decide (y < z))) := by
  unfold gChain
  rw [h1]
  dsimp only [Rs.bind]
  rw [h2]
  dsimp only [Rs.bind]
  rw [dLe_i]
  dsimp only [Rs.bind]
  rw [ev_asB]
  cases decide (x ≤ y) with
  | false => rfl
  | true =>
    dsimp only
    rw [if_pos rfl, h3]
    rfl
theorem chain_le {a b c : GE} {ρ : EnvD} {x y z : Int} (h1 : a ρ = .ok (.int x)) (h2 : b ρ = .ok (.int y)) (h3 : c ρ = .ok (.int z)) : gChain dLe dLe a b c ρ = .ok (.bl (decide (x ≤ y) && decide (y ≤ z))) := by
  unfold gChain
  rw [h1]
  dsimp only [Rs.bind]
  rw [h2]
  dsimp only [Rs.bind]
  rw [dLe_i]
  dsimp only [Rs.bind]
  rw [ev_asB]
  cases decide (x ≤ y) with
  | false => rfl
  | true =>
    dsimp only
    rw [if_pos rfl, h3]
    rfl
theorem not_e {t : GT} {ρ : EnvD} {z : Bool} (h : t ρ = .ok z) : gNot t ρ = .ok (!z) := by
  rw [ev_not, h]
theorem raise_i {c : Str} {g : GE} {ρ : EnvD} {i : Int} (h : g ρ = .ok (.int i)) : gRaise c (aCons g aNil) ρ = .ex c (.int i) := by
  unfold gRaise
  rw [ev_cons, h]
  rfl
theorem ev_stop {t : GT} {f k : GS} {ρ ρ' : EnvD} {d : DV} (h : t ρ = .ok true) (h2 : f ρ = .rt d ρ') : gSeq (gIfS t f gNext) k ρ = .rt d ρ' := ev_seqR (by rw [ev_ifS h, if_pos rfl, h2])
theorem ev_stopE {t : GT} {f k : GS} {ρ : EnvD} {c : Str} {d : DV} (h : t ρ = .ok true) (h2 : f ρ = .ex c d) : gSeq (gIfS t f gNext) k ρ = .ex c d := ev_seqE (by rw [ev_ifS h, if_pos rfl, h2])
def fstB (b : Nat → Option Str) : Nat → Nat → Option (Str × Nat)
  | _, 0 => none
  | i, n + 1 => match b i with
    | some c => some (c, i)
    | none => fstB b (i + 1) n
theorem forG_fst {tg : GG} {b : GS} {bd : Nat → Option Str} {I : EnvD → Prop} {St : Str → Nat → Out → Prop} (N : Nat) (hs : ∀ c k o, St c k o → (∃ d ρ, o = .rt d ρ) ∨ ∃ c d, o = .ex c d)
    (hi : ∀ (i : Nat) (ρ : EnvD), i < N → I ρ → ∃ ρ1, tg (.int ((0 : Int) + (i : Int))) ρ = .ok ρ1 ∧ (bd i = none → ∃ ρ2, b ρ1 = .nx ρ2 ∧ I ρ2) ∧ ∀ c, bd i = some c → St c i (b ρ1)) (n i : Nat) (ρ : EnvD) (hn : i + n ≤ N) (h : I ρ) :
    (fstB bd i n = none → ∃ ρ', forG tg b ((List.range' i n).map fun k : Nat => DV.int ((0 : Int) + (k : Int))) ρ = .nx ρ' ∧ I ρ') ∧ ∀ c k, fstB bd i n = some (c, k) → St c k (forG tg b ((List.range' i n).map fun k : Nat => DV.int ((0 : Int) + (k : Int))) ρ) := by
  induction n generalizing i ρ with
  | zero => exact ⟨fun _ => ⟨ρ, rfl, h⟩, fun c k e => (by cases e)⟩
  | succ n ih =>
    obtain ⟨ρ1, e1, h2, h3⟩ := hi i ρ (by omega) h
    rw [List.range'_succ, List.map_cons]
    unfold fstB
    cases e : bd i with
    | none =>
      obtain ⟨ρ2, e2, h4⟩ := h2 e
      rw [forG_cons e1 e2]
      exact ih (i + 1) ρ2 (by omega) h4
    | some c =>
      refine ⟨fun z => (by cases z), fun c2 k z => ?_⟩
      cases z
      have z := h3 c e
      rcases hs c i _ z with ⟨d, ρ', q⟩ | ⟨c', d, q⟩
      · rw [forG_consR e1 q]
        rw [q] at z
        exact z
      · have w : forG tg b (.int ((0 : Int) + (i : Int)) :: (List.range' (i + 1) n).map fun k : Nat => DV.int ((0 : Int) + (k : Int))) ρ = .ex c' d := by
          conv => lhs; unfold forG
          rw [e1]
          dsimp only
          rw [q]
        rw [w]
        rw [q] at z
        exact z
theorem ev_forX {gi : GI} {tg : GG} {b : GS} {ρ : EnvD} {its : List DV} {c : Str} {d : DV} (h1 : gi ρ = .ok its) (h2 : forG tg b its ρ = .ex c d) : gFor gi tg b ρ = .ex c d := by
  unfold gFor
  rw [h1]
  exact h2
theorem imm_e {g : GE} {ρ : EnvD} {d : DV} (h : g ρ = .ok d) (hi : imm d = true) : gImm g ρ = .ok d := by
  unfold gImm
  rw [h]
  exact if_pos hi
theorem seq_raw {g : GE} {ρ : EnvD} {ds : List DV} (h : g ρ = .ok (.lst ds)) : gSeqI g ρ = .ok ds := by
  unfold gSeqI
  rw [h]
  rfl
theorem forG_nil {tg : GG} {b : GS} {ρ : EnvD} : forG tg b [] ρ = .nx ρ := rfl
theorem m1_e {ρ : EnvD} : gUn dNeg (gC (.int 1)) ρ = .ok (.int (-1)) := rfl
theorem cb4 {a b c d : GE} {o : OpA} {ρ : EnvD} {x y z u : DV} (h : a ρ = .ok x) (h2 : b ρ = .ok y) (h3 : c ρ = .ok z) (h4 : d ρ = .ok u) : gCB o (aCons a (aCons b (aCons c (aCons d aNil)))) ρ = o [x, y, z, u] := by
  rw [ev_cb, ev_cons, h, ev_cons, h2, ev_cons, h3, ev_cons, h4]
  rfl
theorem cut_tail {xs : List DV} : cutD xs (some 1) none = xs.drop 1 := by
  unfold cutD
  rw [show (1 : Int) = ((1 : Nat) : Int) from rfl, HT.sIx_nat, HT.sIx_none]
  cases xs with
  | nil => rfl
  | cons x xs =>
    have e : min 1 (x :: xs).length = 1 := by rw [List.length_cons]; omega
    rw [e]
    show xs.take (xs.length + 1 - 1) = xs
    rw [Nat.add_sub_cancel, List.take_length]
theorem app_raw {ds : List DV} {d : DV} {i : Nat} {ρ : EnvD} {ge : GE} (h1 : lk ρ i = .ok (.lst ds)) (h2 : ge ρ = .ok d) (h : ds.length ≤ 1000) : gDrop (gApp i (gPure ge)) ρ = .nx (ρ.set i (some (.lst (ds ++ [d])))) := by
  unfold gDrop gApp
  rw [h1]
  dsimp only
  rw [ev_pure, h2]
  dsimp only [Rs.bind]
  rw [h1]
  dsimp only
  rw [if_pos (by rw [sz_eq]; omega)]
theorem cb5 {a b c d e : GE} {o : OpA} {ρ : EnvD} {x1 x2 x3 x4 x5 : DV} (h1 : a ρ = .ok x1) (h2 : b ρ = .ok x2) (h3 : c ρ = .ok x3) (h4 : d ρ = .ok x4) (h5 : e ρ = .ok x5) : gCB o (aCons a (aCons b (aCons c (aCons d (aCons e aNil))))) ρ = o [x1, x2, x3, x4, x5] := by
  rw [ev_cb, ev_cons, h1, ev_cons, h2, ev_cons, h3, ev_cons, h4, ev_cons, h5]
  rfl
theorem forG_list {α : Type} {g : α → DV} {tg : GG} {b : GS} (N : Nat) (I : List α → EnvD → Prop) : ∀ (xs done : List α) (ρ : EnvD), done.length + xs.length ≤ N → (∀ (x : α) (done : List α) (ρ : EnvD), x ∈ xs → done.length < N → I done ρ → ∃ ρ1 ρ2, tg (g x) ρ = .ok ρ1 ∧ b ρ1 = .nx ρ2 ∧ I (done ++ [x]) ρ2) → I done ρ →
    ∃ ρ', forG tg b (xs.map g) ρ = .nx ρ' ∧ I (done ++ xs) ρ'
  | [], done, ρ, _, _, h => ⟨ρ, rfl, by rw [List.append_nil]; exact h⟩
  | x :: xs, done, ρ, hN, hi, h => by
    rw [List.length_cons] at hN
    obtain ⟨ρ1, ρ2, e1, e2, h2⟩ := hi x done ρ List.mem_cons_self (by omega) h
    obtain ⟨ρ', e3, h3⟩ := forG_list N I xs (done ++ [x]) ρ2 (by rw [List.length_append]; show done.length + 1 + _ ≤ N; omega) (fun y d r hy => hi y d r (List.mem_cons_of_mem _ hy)) h2
    refine ⟨ρ', ?_, by rw [List.append_assoc] at h3; exact h3⟩
    rw [List.map_cons, forG_cons e1 e2]
    exact e3
theorem flat_e {g : GE} {ρ : EnvD} {d : DV} (h : g ρ = .ok d) (f : (DL.flat d).isSome = true) : gFlat g ρ = .ok d := by
  unfold gFlat
  rw [h]
  dsimp only [Rs.bind]
  rw [if_pos f]
theorem pure_e {g : GE} {ρ : EnvD} {d : DV} (h : g ρ = .ok d) : gPure g ρ = .ok (d, ρ) := by rw [ev_pure, h]
theorem xtup3 {a b c : GX} {ρ ρ1 ρ2 ρ3 : EnvD} {x y z : DV} (h1 : a ρ = .ok (x, ρ1)) (h2 : b ρ1 = .ok (y, ρ2)) (h3 : c ρ2 = .ok (z, ρ3)) : xTup (xCons a (xCons b (xCons c xNil))) ρ = .ok (.tup [x, y, z], ρ3) := by
  unfold xTup xCons xNil
  rw [h1]
  dsimp only [Rs.bind]
  rw [h2]
  dsimp only [Rs.bind]
  rw [h3]
  show (if 0 + 1 + 1 + 1 ≤ sizeLine then _ else _) = _
  rw [if_pos (by decide)]
theorem lc_b {tg : GG} {gt : GT} {ge : GE} {ρ ρ1 : EnvD} {d x : DV} {z : Bool} (h1 : tg d ρ = .ok ρ1) (h2 : gt ρ1 = .ok z) (h3 : ge ρ1 = .ok x) : lcTurn tg gt ge ρ d = .ok (if z = true then some x else none) := by
  cases z
  · exact lc_no h1 h2
  · exact lc_yes h1 h2 h3
theorem fst_none {b : Nat → Option Str} : ∀ {n i : Nat}, (∀ k, i ≤ k → k < i + n → b k = none) → fstB b i n = none
  | 0, _, _ => rfl
  | n + 1, i, h => by
    unfold fstB
    rw [h i (Nat.le_refl _) (by omega)]
    exact fst_none (n := n) fun k h1 h2 => h k (by omega) (by omega)
theorem fst_at {b : Nat → Option Str} {c : Str} {k : Nat} : ∀ {n i : Nat}, (∀ j, i ≤ j → j < k → b j = none) → b k = some c → i ≤ k → k < i + n → fstB b i n = some (c, k)
  | 0, i, _, _, h1, h2 => by omega
  | n + 1, i, h, hc, h1, h2 => by
    unfold fstB
    by_cases e : i = k
    · subst e
      rw [hc]
    · rw [h i (Nat.le_refl _) (by omega)]
      exact fst_at (n := n) (fun j h3 h4 => h j (by omega) h4) hc (by omega) (by omega)
abbrev kd (a b c e : Bool) (d : DV) : DV := .tup [.lst [.bl a, .bl b, .bl c, .bl e], d]
theorem cut_to {α : Type} {g : α → DV} {xs : List α} {z : Int} (h : 0 ≤ z) : cutD (xs.map g) none (some z) = (xs.take z.toNat).map g := by
  have e : z = ((z.toNat : Nat) : Int) := by omega
  rw [e, cut_front, Int.toNat_natCast, List.map_take]
theorem cut_from {α : Type} {g : α → DV} {xs : List α} {z : Int} (h : 0 ≤ z) : cutD (xs.map g) (some z) none = (xs.drop z.toNat).map g := by
  have e : z = ((z.toNat : Nat) : Int) := by omega
  unfold cutD
  rw [e, HT.sIx_nat, HT.sIx_none, Int.toNat_natCast, List.map_drop]
  by_cases c : z.toNat ≤ (xs.map g).length
  · rw [Nat.min_eq_left c, List.take_of_length_le (by rw [List.length_drop]; omega)]
  · rw [Nat.min_eq_right (by omega), List.drop_length, List.drop_of_length_le (by omega)]
    simp
theorem slT_e {α : Type} {g : α → DV} {xs : List α} {a b : GE} {ρ : EnvD} {z : Int} (h1 : a ρ = .ok (.lst (xs.map g))) (h2 : b ρ = .ok (.int z)) (h : 0 ≤ z) : gSl a gNoPart (gPart b) ρ = .ok (.lst ((xs.take z.toNat).map g)) := by
  have e : gSl a gNoPart (gPart b) ρ = .ok (.lst (cutD (xs.map g) none (some z))) := by
    unfold gSl gNoPart gPart
    rw [h1]
    dsimp only [Rs.bind]
    rw [h2]
    rfl
  rw [e, cut_to h]
theorem slF_e {α : Type} {g : α → DV} {xs : List α} {a b : GE} {ρ : EnvD} {z : Int} (h1 : a ρ = .ok (.lst (xs.map g))) (h2 : b ρ = .ok (.int z)) (h : 0 ≤ z) : gSl a (gPart b) gNoPart ρ = .ok (.lst ((xs.drop z.toNat).map g)) := by
  have e : gSl a (gPart b) gNoPart ρ = .ok (.lst (cutD (xs.map g) (some z) none)) := by
    unfold gSl gNoPart gPart
    rw [h1]
    dsimp only [Rs.bind]
    rw [h2]
    rfl
  rw [e, cut_from h]
theorem cat_e {α : Type} {g : α → DV} {xs ys : List α} (h : xs.length + ys.length ≤ 100000) : dAdd (.lst (xs.map g)) (.lst (ys.map g)) = .ok (.lst ((xs ++ ys).map g)) := by
  have : (xs.map g).length + (ys.map g).length ≤ sizeLine := by rw [List.length_map, List.length_map, sz_eq]; omega
  show (match (match (Rs.stuck : Rs DV) with | .stuck => (match dCat (.lst (xs.map g)) (.lst (ys.map g)) with | .stuck => dCatS (.lst (xs.map g)) (.lst (ys.map g)) | r => r) | r => r) with | r => r) = _
  simp only [dCat, this, if_true]
  simp [List.map_append]
theorem lst2 {a b : GE} {ρ : EnvD} {x y : DV} (h1 : a ρ = .ok x) (h2 : b ρ = .ok y) : eLst (aCons a (aCons b aNil)) ρ = .ok (.lst [x, y]) := by
  rw [ev_lst, ev_cons, h1, ev_cons, h2]
  show (if 0 + 1 + 1 ≤ sizeLine then _ else _) = _
  rw [if_pos (by decide)]
theorem lst3 {a b c : GE} {ρ : EnvD} {x y z : DV} (h1 : a ρ = .ok x) (h2 : b ρ = .ok y) (h3 : c ρ = .ok z) : eLst (aCons a (aCons b (aCons c aNil))) ρ = .ok (.lst [x, y, z]) := by
  rw [ev_lst, ev_cons, h1, ev_cons, h2, ev_cons, h3]
  show (if 0 + 1 + 1 + 1 ≤ sizeLine then _ else _) = _
  rw [if_pos (by decide)]
theorem lst4 {a b c d : GE} {ρ : EnvD} {x y z u : DV} (h1 : a ρ = .ok x) (h2 : b ρ = .ok y) (h3 : c ρ = .ok z) (h4 : d ρ = .ok u) : eLst (aCons a (aCons b (aCons c (aCons d aNil)))) ρ = .ok (.lst [x, y, z, u]) := by
  rw [ev_lst, ev_cons, h1, ev_cons, h2, ev_cons, h3, ev_cons, h4]
  show (if 0 + 1 + 1 + 1 + 1 ≤ sizeLine then _ else _) = _
  rw [if_pos (by decide)]
theorem one_e {α : Type} {g : α → DV} {x : α} {a : GE} {ρ : EnvD} (h : a ρ = .ok (g x)) : eLst (aCons a aNil) ρ = .ok (.lst ([x].map g)) := by
  rw [ev_lst, ev_cons, h]
  show (if 0 + 1 ≤ sizeLine then _ else _) = _
  rw [if_pos (by decide)]
  rfl
theorem rep_g {α : Type} {g : α → DV} {x : α} {z : Int} {n : Nat} (e : z = (n : Int)) (h : n ≤ 1000) : dRep (.lst ([x].map g)) (.int z) = .ok (.lst ((List.replicate n x).map g)) := by
  subst e
  unfold dRep
  dsimp only
  rw [if_pos ⟨by rw [List.length_map, Int.toNat_natCast, sz_eq]; show 1 * n ≤ _; omega, by omega, by omega⟩, Int.toNat_natCast]
  congr 2
  induction n with
  | zero => rfl
  | succ n ih =>
    rw [List.replicate_succ, List.flatten_cons, ih (by omega), List.replicate_succ]
    rfl
theorem kd_shw {a b c e : Bool} {i : Int} (h : i.natAbs ≤ 10000000) : SH.Shw 2 52 (kd a b c e (.int i)) := by
  refine SH.tup (k := 1) (w := 25) (ds := [.lst [.bl a, .bl b, .bl c, .bl e], .int i]) fun d hd => ?_
  have hd : d = .lst [.bl a, .bl b, .bl c, .bl e] ∨ d = .int i := by simpa only [List.mem_cons, List.not_mem_nil, or_false] using hd
  rcases hd with hd | hd <;> subst hd
  · refine (SH.lst (k := 0) (w := 0) fun d hd => ?_).mono (by decide) (by show (0 + 1) * 4 ≤ 25; decide)
    have hd : d = .bl a ∨ d = .bl b ∨ d = .bl c ∨ d = .bl e := by simpa only [List.mem_cons, List.not_mem_nil, or_false] using hd
    rcases hd with hd | hd | hd | hd <;> subst hd <;> exact SH.bl
  · exact (SH.int h).mono (by decide) (Nat.le_refl _)
theorem ne_kd {a b c e : Bool} {i : Int} (h : i.natAbs ≤ 10000000) : dNe (kd a b c e (.int i)) (kd a b c e (.int i)) = .ok (.bl false) := SH.ne_self (kd_shw h) (by decide)
theorem eq_kd {a b c e : Bool} {i : Int} (h : i.natAbs ≤ 10000000) : dEq (kd a b c e (.int i)) (kd a b c e (.int i)) = .ok (.bl true) := SH.eq_self (kd_shw h) (by decide)
theorem kd4 {a b c e : Bool} {g : GE} {ρ : EnvD} {d : DV} (h : g ρ = .ok d) : eTup (aCons (eLst (aCons (gC (.bl a)) (aCons (gC (.bl b)) (aCons (gC (.bl c)) (aCons (gC (.bl e)) aNil))))) (aCons g aNil)) ρ = .ok (kd a b c e d) := tup2 (lst4 rfl rfl rfl rfl) h
theorem di_shw {xs : List Int} (h : ∀ x ∈ xs, x.natAbs ≤ 100) : SH.Shw 1 (26 * xs.length) (di xs) := SH.map (k := 0) (w := 25) (g := DV.int) fun x hx => SH.int (by have := h x hx; omega)
theorem sl39_e {xs : List Int} {a : GE} {ρ : EnvD} (h : 9 ≤ xs.length) (h1 : a ρ = .ok (di xs)) : gSl a (gPart (gC (.int 3))) (gPart (gC (.int 9))) ρ = .ok (di ((xs.drop 3).take 6)) := by
  have e : gSl a (gPart (gC (.int 3))) (gPart (gC (.int 9))) ρ = .ok (.lst (cutD (xs.map DV.int) (some ((3 : Nat) : Int)) (some ((9 : Nat) : Int)))) := by
    unfold gSl gPart
    rw [h1]
    rfl
  rw [e]
  unfold cutD
  rw [HT.sIx_nat, HT.sIx_nat, List.length_map, Nat.min_eq_left h, Nat.min_eq_left (by omega : 3 ≤ xs.length), ← List.map_drop, ← List.map_take]
end M
end

/-! text C1 -/
section
set_option maxRecDepth 100000
set_option maxHeartbeats 4000000
namespace M
open PySem DL
abbrev St := List Int × Int
abbrev sD (z : St) : DV := .tup [di z.1, .int z.2]
abbrev ssD (zs : List St) : DV := .lst (zs.map sD)
def badA (s : Int) (l : List Int) (i : Nat) : Bool := !(decide (0 ≤ l.getD i 0) && decide (l.getD i 0 < s)) || (decide (0 < i) && decide (l.getD i 0 ≤ l.getD (i - 1) 0))
theorem and_f {s t : GT} {ρ : EnvD} (h1 : s ρ = .ok false) : gAnd s t ρ = .ok false := by
  unfold gAnd
  rw [h1]
  rfl
def GS0 (s : Int) (z : St) : Prop := z.1.Pairwise (· < ·) ∧ (∀ e ∈ z.1, 0 ≤ e ∧ e < s) ∧ 0 ≤ z.2 ∧ z.2 ≤ 62
theorem asc_len : ∀ (l : List Int) (a b : Int), l.Pairwise (· < ·) → (∀ e ∈ l, a ≤ e ∧ e < b) → l.length ≤ (b - a).toNat
  | [], _, _, _, _ => Nat.zero_le _
  | x :: l, a, b, hp, hr => by
    have h1 := List.pairwise_cons.mp hp
    have h2 := hr x List.mem_cons_self
    have := asc_len l (x + 1) b h1.2 fun e he => ⟨by have := h1.1 e he; omega, (hr e (List.mem_cons_of_mem _ he)).2⟩
    rw [List.length_cons]
    omega
theorem GS0.len {s : Int} {z : St} (h : GS0 s z) (hs : s ≤ 8) : z.1.length ≤ 8 := by
  have := asc_len z.1 0 s h.1 h.2.1
  omega
theorem GS0.bad {s : Int} {z : St} (h : GS0 s z) {k : Nat} (hk : k < z.1.length) : badA s z.1 k = false := by
  have m := h.2.1 _ (List.getElem_mem hk)
  unfold badA
  rw [getD_lt hk, decide_eq_true m.1, decide_eq_true m.2]
  by_cases c : 0 < k
  · have p := List.pairwise_iff_getElem.mp h.1 (k - 1) k (by omega) hk (by omega)
    rw [getD_lt (by omega), decide_eq_false (by omega : ¬ z.1[k] ≤ z.1[k - 1])]
    simp
  · rw [decide_eq_false c]
    rfl
section
variable {s k : Int} {zs : List St} {z : St} {t2 t3 t4 t5 : Option DV}
theorem a_turn {i : Nat} (hi : i < z.1.length) : (gOr (gNot (gB (gChain dLe dLt (gC (.int 0)) (gBin dIx (gVar 3) (gVar 5)) (gVar 0)))) (gAnd (gB (gBin dGt (gVar 5) (gC (.int 0)))) (gB (gBin dLe (gBin dIx (gVar 3) (gVar 5)) (gBin dIx (gVar 3) (gBin dSub (gVar 5) (gC (.int 1)))))))) [some (.int s), some (ssD zs), some (.int k), some (di z.1), some (.int z.2), some (.int ((0 : Int) + (i : Int)))] = .ok (badA s z.1 i) := by
  have g : ∀ ρ, lk ρ 3 = .ok (di z.1) → lk ρ 5 = .ok (.int ((0 : Int) + (i : Int))) → gBin dIx (gVar 3) (gVar 5) ρ = .ok (.int (z.1.getD i 0)) := fun ρ h1 h2 => (bin_e h1 h2).trans (by rw [dIx_g (g := DV.int) i (by omega) hi, getD_lt hi])
  unfold badA
  refine or_e (not_e (b_e (chain_lt rfl (g _ rfl rfl) rfl))) ?_
  have t1 : (gB (gBin dGt (gVar 5) (gC (.int 0)))) [some (.int s), some (ssD zs), some (.int k), some (di z.1), some (.int z.2), some (.int ((0 : Int) + (i : Int)))] = .ok (decide ((0 : Int) < (0 : Int) + (i : Int))) := b_e ((bin_e rfl rfl).trans dGt_i)
  by_cases c : 0 < i
  · rw [decide_eq_true c]
    rw [decide_eq_true (by omega : (0 : Int) < (0 : Int) + (i : Int))] at t1
    refine and_e t1 (b_e ((bin_e (g _ rfl rfl) (y := .int (z.1.getD (i - 1) 0)) ?_).trans dLe_i))
    refine (bin_e rfl ((bin_e rfl rfl).trans dSub_i)).trans ?_
    rw [dIx_g (g := DV.int) (i - 1) (by omega) (by omega), getD_lt (by omega)]
  · rw [decide_eq_false c]
    rw [decide_eq_false (by omega : ¬ (0 : Int) < (0 : Int) + (i : Int))] at t1
    exact and_f t1
end
def oB : GS := (gSeq (gAsg (gPure (gBin dIx (gVar 1) (gVar 2))) (gtTup [3, 4])) (gSeq (gFor (gRng1 (aCons (gCB dLen (aCons (gVar 3) aNil)) aNil)) (gtName 5) (gIfS (gOr (gNot (gB (gChain dLe dLt (gC (.int 0)) (gBin dIx (gVar 3) (gVar 5)) (gVar 0)))) (gAnd (gB (gBin dGt (gVar 5) (gC (.int 0)))) (gB (gBin dLe (gBin dIx (gVar 3) (gVar 5)) (gBin dIx (gVar 3) (gBin dSub (gVar 5) (gC (.int 1)))))))) gNever gNext)) (gIfS (gNot (gB (gChain dLe dLe (gC (.int 0)) (gVar 4) (gC (.int 1048576))))) gNever gNext)))
theorem o_ok {s : Int} {i : Nat} {zs : List St} {z : St} {u3 u4 u5 : Option DV} (hz : GS0 s z) (hs : s ≤ 8) (g : dIx (ssD zs) (.int ((0 : Int) + (i : Int))) = .ok (sD z)) : ∃ v3 v4 v5, oB [some (.int s), some (ssD zs), some (.int ((0 : Int) + (i : Int))), u3, u4, u5] = .nx [some (.int s), some (ssD zs), some (.int ((0 : Int) + (i : Int))), v3, v4, v5] := by
  have lz := hz.len hs
  have s1 : (gAsg (gPure (gBin dIx (gVar 1) (gVar 2))) (gtTup [3, 4])) [some (.int s), some (ssD zs), some (.int ((0 : Int) + (i : Int))), u3, u4, u5] = .nx [some (.int s), some (ssD zs), some (.int ((0 : Int) + (i : Int))), some (di z.1), some (.int z.2), u5] := by
    unfold gAsg
    rw [ev_pure, (bin_e rfl rfl).trans g]
    rfl
  obtain ⟨ρ', f1, t5, e5⟩ := forG_rngB (tg := gtName 5) (b := (gIfS (gOr (gNot (gB (gChain dLe dLt (gC (.int 0)) (gBin dIx (gVar 3) (gVar 5)) (gVar 0)))) (gAnd (gB (gBin dGt (gVar 5) (gC (.int 0)))) (gB (gBin dLe (gBin dIx (gVar 3) (gVar 5)) (gBin dIx (gVar 3) (gBin dSub (gVar 5) (gC (.int 1)))))))) gNever gNext)) z.1.length (fun _ ρ => ∃ t5 : Option DV, ρ = [some (.int s), some (ssD zs), some (.int ((0 : Int) + (i : Int))), some (di z.1), some (.int z.2), t5]) (fun j ρ hj h => by
    obtain ⟨t5, rfl⟩ := h
    have a := a_turn (s := s) (k := (0 : Int) + (i : Int)) (zs := zs) (z := z) hj
    rw [hz.bad hj] at a
    exact ⟨_, _, rfl, (ev_ifS a).trans rfl, _, rfl⟩) z.1.length 0 [some (.int s), some (ssD zs), some (.int ((0 : Int) + (i : Int))), some (di z.1), some (.int z.2), u5] (by omega) ⟨_, rfl⟩
  have s2 : gFor (gRng1 (aCons (gCB dLen (aCons (gVar 3) aNil)) aNil)) (gtName 5) (gIfS (gOr (gNot (gB (gChain dLe dLt (gC (.int 0)) (gBin dIx (gVar 3) (gVar 5)) (gVar 0)))) (gAnd (gB (gBin dGt (gVar 5) (gC (.int 0)))) (gB (gBin dLe (gBin dIx (gVar 3) (gVar 5)) (gBin dIx (gVar 3) (gBin dSub (gVar 5) (gC (.int 1)))))))) gNever gNext) [some (.int s), some (ssD zs), some (.int ((0 : Int) + (i : Int))), some (di z.1), some (.int z.2), u5] = .nx ρ' := ev_for (rng1_e (len_e (g := DV.int) (xs := z.1) rfl) rfl (by omega)) (by rw [rngD_eq]; exact f1)
  have gz := hz.2.2
  have t : (gNot (gB (gChain dLe dLe (gC (.int 0)) (gVar 4) (gC (.int 1048576))))) [some (.int s), some (ssD zs), some (.int ((0 : Int) + (i : Int))), some (di z.1), some (.int z.2), t5] = .ok false := by
    rw [not_e (b_e (chain_le rfl rfl rfl)), decide_eq_true gz.1, decide_eq_true (by omega : z.2 ≤ 1048576)]
    rfl
  unfold oB
  rw [ev_seq s1, ev_seq s2, e5, ev_ifS t]
  exact ⟨_, _, _, rfl⟩
theorem check_good {s : Int} {zs : List St} (h1 : 1 ≤ s) (hs : s ≤ 8) (hl1 : 1 ≤ zs.length) (hl : zs.length ≤ 9) (hg : ∀ z ∈ zs, GS0 s z) : m_check_sets [.int s, ssD zs] = .ok .non := by
  have st : startD 6 [.int s, ssD zs] = [some (.int s), some (ssD zs), none, none, none, none] := rfl
  have t1 : (gNot (gB (gChain dLe dLe (gC (.int 1)) (gVar 0) (gC (.int 40))))) [some (.int s), some (ssD zs), none, none, none, none] = .ok false := by
    rw [not_e (b_e (chain_le rfl rfl rfl)), decide_eq_true h1, decide_eq_true (by omega : s ≤ 40)]
    rfl
  have t2 : (gNot (gB (gChain dLe dLe (gC (.int 1)) (gCB dLen (aCons (gVar 1) aNil)) (gC (.int 40))))) [some (.int s), some (ssD zs), none, none, none, none] = .ok false := by
    rw [not_e (b_e (chain_le rfl (len_e (g := sD) (xs := zs) rfl) rfl)), decide_eq_true (by omega : (1 : Int) ≤ (zs.length : Int)), decide_eq_true (by omega : (zs.length : Int) ≤ 40)]
    rfl
  obtain ⟨ρ', f1, u2, u3, u4, u5, e1⟩ := forG_rngB (tg := gtName 2) (b := oB) zs.length (fun _ ρ => ∃ u2 u3 u4 u5 : Option DV, ρ = [some (.int s), some (ssD zs), u2, u3, u4, u5]) (fun i ρ hi h => by
    obtain ⟨u2, u3, u4, u5, rfl⟩ := h
    have g : dIx (ssD zs) (.int ((0 : Int) + (i : Int))) = .ok (sD zs[i]) := dIx_g (g := sD) (xs := zs) i (by omega) hi
    obtain ⟨v3, v4, v5, k⟩ := o_ok (u3 := u3) (u4 := u4) (u5 := u5) (hg _ (List.getElem_mem hi)) hs g
    exact ⟨_, _, rfl, k, _, _, _, _, rfl⟩) zs.length 0 [some (.int s), some (ssD zs), none, none, none, none] (by omega) ⟨_, _, _, _, rfl⟩
  have s3 : gFor (gRng1 (aCons (gCB dLen (aCons (gVar 1) aNil)) aNil)) (gtName 2) oB [some (.int s), some (ssD zs), none, none, none, none] = .nx ρ' := ev_for (rng1_e (len_e (g := sD) (xs := zs) rfl) rfl (by omega)) (by rw [rngD_eq]; exact f1)
  unfold m_check_sets runB b_check_sets
  rw [st, ev_skip t1, ev_skip t2]
  show finB (gFor _ _ oB _) = _
  rw [s3]
  rfl
theorem eqoks_i : ∀ xs : List Int, eqoks (xs.map DV.int) 19 = true
  | [] => rfl
  | x :: xs => by
    show (eqok (.int x) 19 && eqoks (xs.map DV.int) 19) = true
    rw [eqoks_i xs]
    rfl
theorem any_i {x : Int} : ∀ xs : List Int, ((xs.map DV.int).any fun z => eqv z (.int x)) = decide (x ∈ xs)
  | [] => by simp
  | y :: ys => by
    rw [List.map_cons, List.any_cons, any_i ys, eqv_i]
    by_cases h : y = x
    · subst h; simp
    · have h2 : ¬ x = y := fun z => h z.symm
      simp [h, h2]
theorem in_i {x : Int} {xs : List Int} : dIn (.int x) (di xs) = .ok (.bl (decide (x ∈ xs))) := by
  unfold dIn dInB
  dsimp only
  have q : eqok (.lst (xs.map DV.int)) 20 = true := eqoks_i xs
  rw [if_pos (by show (eqok (.int x) 20 && eqok (.lst (xs.map DV.int)) 20) = true; rw [q]; rfl)]
  dsimp only [Rs.bind]
  rw [any_i]
theorem notin_i {x : Int} {xs : List Int} : dNotIn (.int x) (di xs) = .ok (.bl (!decide (x ∈ xs))) := by
  unfold dNotIn dInB
  dsimp only
  have q : eqok (.lst (xs.map DV.int)) 20 = true := eqoks_i xs
  rw [if_pos (by show (eqok (.int x) 20 && eqok (.lst (xs.map DV.int)) 20) = true; rw [q]; rfl)]
  dsimp only [Rs.bind]
  rw [any_i]
theorem dInt_b {b : Bool} : dInt [.bl b] = .ok (.int (if b = true then 1 else 0)) := by cases b <;> rfl
def parts (n : Nat) : List (Int × Int) := (List.range n).map fun i : Nat => ((1 : Int), (1 : Int) + (i : Int))
theorem parts_gd {n : Nat} (h : n ≤ 40) : ∀ z ∈ parts n, Gd z := fun z hz => by
  obtain ⟨i, hi, rfl⟩ := List.mem_map.mp hz
  have := List.mem_range.mp hi
  have e : (40 : Nat) < 2 ^ 31 := by decide
  exact ⟨by show (1 : Int).natAbs < 2 ^ 31; decide, by show ((1 : Int) + (i : Int)).natAbs < 2 ^ 31; omega, by show (0 : Int) < 1 + (i : Int); omega⟩
theorem low_one {q : Int} (h : 0 < q) : low 1 q = (1, q) := by
  have g : gi 1 q = 1 := by unfold gi; simp
  unfold low
  rw [if_neg (by omega), g]
  simp
theorem rng2_i {n : Nat} (h : n ≤ 1000) : dRng2 [.int 1, .int ((n : Int) + 1)] = .ok (rngD 1 n) := by
  have r1 : rngOk 1 = true := by unfold rngOk; simp
  have r2 : rngOk ((n : Int) + 1) = true := by unfold rngOk; simp; omega
  have e : ((n : Int) + 1 - 1).toNat = n := by omega
  unfold dRng2
  dsimp only
  rw [r1, r2, e]
  exact if_pos rfl
theorem bind_ok {α β : Type} {x : α} {f : α → Rs β} : (Rs.ok x).bind f = f x := rfl
theorem args2 {a b : GE} {ρ : EnvD} {x y : DV} (h1 : a ρ = .ok x) (h2 : b ρ = .ok y) : aCons a (aCons b aNil) ρ = .ok [x, y] := by
  rw [ev_cons, h1, ev_cons, h2]
  rfl
theorem rng2_e {ga gb : GE} {ρ : EnvD} {n : Nat} {j : Int} (h1 : ga ρ = .ok (.int 1)) (h2 : gb ρ = .ok (.int j)) (e : j = (n : Int) + 1) (h : n ≤ 1000) : gRng2 (aCons ga (aCons gb aNil)) ρ = .ok (rngD 1 n) := by
  subst e
  unfold gRng2
  rw [args2 h1 h2, bind_ok, rng2_i h]
theorem lcLoop_rngA {a : Int} {h : DV → Rs (Option DV)} {n : Nat} {f : Nat → DV} (k : ∀ i, i < n → h (.int (a + (i : Int))) = .ok (some (f i))) : lcLoop h (rngD a n) = .ok ((List.range n).map f) := by
  unfold rngD
  exact lcLoop_gen (g := fun i : Nat => DV.int (a + (i : Int))) fun i hi => k i (List.mem_range.mp hi)
theorem rngD_lenA {a : Int} {n : Nat} (h : n ≤ 1000) : (rngD a n).length ≤ sizeLine := by unfold rngD; rw [List.length_map, List.length_range, sz_eq]; omega
theorem harmonic_ok {n : Nat} (h : n ≤ 40) : m_harmonic [.int (n : Int)] = .ok (pr (asum (0, 1) (parts n))) := by
  have st : startD 2 [.int (n : Int)] = [some (.int (n : Int)), none] := rfl
  have k : (gLc (gRng2 (aCons (gC (.int 1)) (aCons (gBin dAdd (gVar 0) (gC (.int 1))) aNil))) (gtName 1) gYes (gCB m_fraction (aCons (gC (.int 1)) (aCons (gVar 1) aNil))) [1]) [some (.int (n : Int)), none] = .ok (dp (parts n)) := by
    unfold dp parts
    rw [List.map_map]
    refine ev_lc (rng2_e (n := n) rfl ((bin_e rfl rfl).trans dAdd_i) rfl (by omega)) (rngD_lenA (by omega)) (lcLoop_rngA fun i hi => lc_yes (ρ1 := [some (.int (n : Int)), some (.int ((1 : Int) + (i : Int)))]) rfl rfl ((cb2 rfl rfl).trans ?_))
    rw [fraction_ok (by omega) (den9 (Nat.lt_of_lt_of_le (by omega : ((1 : Int) + (i : Int)).natAbs < 2 ^ 6) (Nat.pow_le_pow_right (by decide) (by decide)))), low_one (by omega)]
    rfl
  unfold m_harmonic runB b_harmonic
  rw [st, ret_e ((cb1 k).trans (added_ok (parts_gd h) (by unfold parts; rw [List.length_map, List.length_range]; omega)).1)]
  rfl
def mxl (zs : List St) : Nat := (zs.map fun z => z.1.length).foldl max 0
theorem iLst_i : ∀ xs : List Int, iLst (xs.map DV.int) = some xs
  | [] => rfl
  | x :: xs => by
    show (iLst (xs.map DV.int)).map (x :: ·) = _
    rw [iLst_i xs]
    rfl
theorem maxI_ok : ∀ (xs : List Nat) (n : Nat), maxI (n : Int) (xs.map fun k : Nat => (k : Int)) = ((xs.foldl max n : Nat) : Int)
  | [], n => rfl
  | x :: xs, n => by
    show maxI (if (n : Int) < (x : Int) then (x : Int) else (n : Int)) _ = _
    rw [List.foldl_cons, ← maxI_ok xs (max n x)]
    congr 1
    split <;> omega
theorem fold_le {b : Nat} : ∀ (xs : List Nat) (n : Nat), n ≤ b → (∀ x ∈ xs, x ≤ b) → xs.foldl max n ≤ b
  | [], n, h, _ => h
  | x :: xs, n, h, k => by
    rw [List.foldl_cons]
    exact fold_le xs _ (by have := k x List.mem_cons_self; omega) fun y hy => k y (List.mem_cons_of_mem _ hy)
theorem max_e {zs : List St} {ρ : EnvD} {g : GE} (h1 : 1 ≤ zs.length) (h : g ρ = .ok (.lst (zs.map fun z => DV.int (z.1.length : Int)))) : gCB dMax (aCons g aNil) ρ = .ok (.int (mxl zs : Int)) := by
  refine (cb1 h).trans ?_
  cases zs with
  | nil => simp at h1
  | cons z zs =>
    have e : iLst ((z :: zs).map fun z => DV.int (z.1.length : Int)) = some ((z.1.length : Int) :: (zs.map fun z => z.1.length).map fun k : Nat => (k : Int)) := by
      have := iLst_i ((z :: zs).map fun z => (z.1.length : Int))
      rw [List.map_map] at this
      rw [List.map_map]
      exact this
    unfold dMax
    dsimp only
    rw [e]
    dsimp only
    rw [maxI_ok]
    unfold mxl
    rw [List.map_cons, List.foldl_cons, Nat.zero_max]
theorem mxl_le {zs : List St} (h : ∀ z ∈ zs, z.1.length ≤ 40) : mxl zs ≤ 40 := fold_le _ _ (by decide) fun x hx => by
  obtain ⟨z, hz, rfl⟩ := List.mem_map.mp hx
  exact h z hz
theorem factor_ok {s : Nat} {zs : List St} (h1 : 1 ≤ s) (h2 : s ≤ 8) (hl : zs.length ≤ 9) (hl1 : 1 ≤ zs.length) (hg : ∀ z ∈ zs, GS0 (s : Int) z) : m_cover_factor [.int (s : Int), ssD zs] = .ok (pr (asum (0, 1) (parts (mxl zs)))) := by
  have st : startD 4 [.int (s : Int), ssD zs] = [some (.int (s : Int)), some (ssD zs), none, none] := rfl
  have s0 : (gDrop (gPure (gCB m_check_sets (aCons (gVar 0) (aCons (gVar 1) aNil))))) [some (.int (s : Int)), some (ssD zs), none, none] = .nx [some (.int (s : Int)), some (ssD zs), none, none] := drop_e ((cb2 rfl rfl).trans (check_good (by omega) (by omega) hl1 hl hg))
  have k : (gLc (gSeqI (gVar 1)) (gtTup [2, 3]) gYes (gCB dLen (aCons (gVar 2) aNil)) [2, 3]) [some (.int (s : Int)), some (ssD zs), none, none] = .ok (.lst (zs.map fun z => DV.int (z.1.length : Int))) := ev_lc (seq_e (f := sD) (xs := zs) rfl) (lenG (by omega)) (lcLoop_gen (g := sD) fun z hz => lc_yes (ρ1 := [some (.int (s : Int)), some (ssD zs), some (di z.1), some (.int z.2)]) rfl rfl (len_e (g := DV.int) (xs := z.1) rfl))
  unfold m_cover_factor runB b_cover_factor
  rw [st, ev_seq s0, ret_e ((cb1 (max_e hl1 k)).trans (harmonic_ok (mxl_le fun z hz => Nat.le_trans ((hg z hz).len (by omega)) (by decide))))]
  rfl
end M
end

/-! text C2 -/
section
set_option maxRecDepth 100000
set_option maxHeartbeats 4000000
namespace M
open PySem DL
theorem ixz {xs : List Int} {z : Int} (h0 : 0 ≤ z) (h : z < (xs.length : Int)) : dIx (di xs) (.int z) = .ok (.int (xs.getD z.toNat 0)) := by
  have hk : z.toNat < xs.length := by omega
  rw [dIx_g (g := DV.int) z.toNat (by omega) hk, getD_lt hk]
def intL (n : Nat) : List Int := (List.range n).map fun i : Nat => (0 : Int) + (i : Int)
theorem ints_len {n : Nat} : (intL n).length = n := by unfold intL; rw [List.length_map, List.length_range]
theorem rngD_ints {n : Nat} : rngD 0 n = (intL n).map DV.int := by
  unfold rngD intL
  rw [List.map_map]
  rfl
theorem mem_ints {n : Nat} {e : Int} : e ∈ intL n ↔ 0 ≤ e ∧ e < (n : Int) := by
  unfold intL
  rw [List.mem_map]
  constructor
  · rintro ⟨i, hi, rfl⟩
    have := List.mem_range.mp hi
    omega
  · intro h
    exact ⟨e.toNat, List.mem_range.mpr (by omega), by omega⟩
theorem ints_asc {n : Nat} : (intL n).Pairwise (· < ·) := by
  unfold intL
  rw [List.pairwise_map]
  exact List.pairwise_lt_range.imp fun h => by omega
theorem rng_ints {g : GE} {ρ : EnvD} {i : Int} {n : Nat} (e : g ρ = .ok (.int i)) (e2 : i = (n : Int)) (h : n ≤ 1000) : gRng1 (aCons g aNil) ρ = .ok ((intL n).map DV.int) := (rng1_e e e2 h).trans (by rw [rngD_ints])
theorem lcLoop_filt {α : Type} {h : DV → Rs (Option DV)} {g f : α → DV} {p : α → Bool} : ∀ {xs : List α}, (∀ x ∈ xs, h (g x) = .ok (if p x = true then some (f x) else none)) → lcLoop h (xs.map g) = .ok ((xs.filter p).map f)
  | [], _ => rfl
  | x :: xs, k => by
    rw [List.map_cons]
    unfold lcLoop
    rw [k x List.mem_cons_self]
    have ih := lcLoop_filt (xs := xs) fun y hy => k y (List.mem_cons_of_mem _ hy)
    rw [List.filter_cons]
    cases p x with
    | true =>
      rw [if_pos rfl, if_pos rfl, List.map_cons]
      show (lcLoop h (xs.map g)).bind _ = _
      rw [ih]
      rfl
    | false =>
      rw [if_neg Bool.false_ne_true, if_neg Bool.false_ne_true]
      show (lcLoop h (xs.map g)).bind _ = _
      rw [ih]
      rfl
theorem xtup2 {a b : GX} {ρ ρ1 ρ2 : EnvD} {x y : DV} (h1 : a ρ = .ok (x, ρ1)) (h2 : b ρ1 = .ok (y, ρ2)) : xTup (xCons a (xCons b xNil)) ρ = .ok (.tup [x, y], ρ2) := by
  unfold xTup xCons xNil
  rw [h1]
  dsimp only [Rs.bind]
  rw [h2]
  dsimp only [Rs.bind]
  exact if_pos (by show (2 : Nat) ≤ sizeLine; exact two_le)
theorem prices_in : ∀ x ∈ ([0, 1, 2, 3, 4, 6, 12, 60] : List Int), 0 ≤ x ∧ x ≤ 60 := by decide
theorem price_ix {z : Int} (h0 : 0 ≤ z) (h : z < 8) : ∃ p, dIx (.lst [.int 0, .int 1, .int 2, .int 3, .int 4, .int 6, .int 12, .int 60]) (.int z) = .ok (.int p) ∧ 0 ≤ p ∧ p ≤ 60 := by
  refine ⟨_, ixz (xs := [0, 1, 2, 3, 4, 6, 12, 60]) h0 h, ?_⟩
  have hk : z.toNat < ([0, 1, 2, 3, 4, 6, 12, 60] : List Int).length := by show z.toNat < 8; omega
  rw [getD_lt hk]
  exact prices_in _ (List.getElem_mem hk)
theorem dDiv_s {i j : Int} (h : 0 < j) (h2 : j ≤ 8000) : dDiv (.int i) (.int j) = .ok (.int (i / j)) := dDiv_i h (Nat.lt_of_le_of_lt (Nat.log2_le_self _) (by
  omega))
def memP (xs : List Int) (d k : Int) (o : Int) : Bool := decide (xs.getD (10 + 14 + (o + 5 * k) % 40).toNat 0 / (1 + d % 7) % 5 < 2)
theorem mem_e {xs : List Int} {s i : Nat} {d : Int} {zs : List St} {t8 t9 t10 t11 : Option DV} (hl : xs.length = 170) (hd : 0 ≤ d) (hs : s ≤ 8) (hi : i ≤ 9) : (gLc (gRng1 (aCons (gVar 4) aNil)) (gtName 9) (gB (gBin dLt (gBin dMod (gBin dDiv (gCB dInt (aCons (gBin dIx (gVar 0) (gBin dAdd (gBin dAdd (gVar 1) (gC (.int 14))) (gBin dMod (gCB dInt (aCons (gBin dAdd (gVar 9) (gBin dMul (gC (.int 5)) (gVar 6))) aNil)) (gC (.int 40))))) aNil)) (gBin dAdd (gC (.int 1)) (gBin dMod (gVar 7) (gC (.int 7))))) (gC (.int 5))) (gC (.int 2)))) (gVar 9) [9]) [some (di xs), some (.int 10), some (.int 6), some (.int 7), some (.int (s : Int)), some (ssD zs), some (.int ((0 : Int) + (i : Int))), some (.int d), t8, t9, t10, t11] = .ok (di ((intL s).filter (memP xs d (0 + (i : Int))))) := by
  unfold di
  refine ev_lc (rng_ints (i := (s : Int)) rfl rfl (by omega)) (lenG (by rw [ints_len]; omega)) (lcLoop_filt (f := DV.int) fun o ho => ?_)
  have ho := mem_ints.mp ho
  refine lc_b (ρ1 := [some (di xs), some (.int 10), some (.int 6), some (.int 7), some (.int (s : Int)), some (ssD zs), some (.int ((0 : Int) + (i : Int))), some (.int d), t8, some (.int o), t10, t11]) rfl (b_e (z := memP xs d (0 + (i : Int)) o) ?_) rfl
  have a1 : mulOk 5 ((0 : Int) + (i : Int)) = true := mulT (by decide)
  refine (bin_e ((bin_e ((bin_e ((cb1 (x := .int (xs.getD (10 + 14 + (o + 5 * (0 + (i : Int))) % 40).toNat 0)) ((bin_e rfl ((bin_e ((bin_e rfl rfl).trans dAdd_i) ((bin_e ((cb1 ((bin_e rfl ((bin_e rfl rfl).trans (dMul_i a1))).trans dAdd_i)).trans dInt_i) rfl).trans (dMod_i (by decide)))).trans dAdd_i)).trans (ixz (by omega) (by omega)))).trans dInt_i) ((bin_e rfl ((bin_e rfl rfl).trans (dMod_i (by decide)))).trans dAdd_i)).trans (dDiv_s (by omega) (by omega))) rfl).trans (dMod_i (by decide))) rfl).trans ?_
  exact dLt_i
def sB : GS := (gSeq (gAsg (gPure (gCB dInt (aCons (gBin dIx (gVar 0) (gBin dAdd (gBin dAdd (gVar 1) (gC (.int 2))) (gVar 6))) aNil))) (gtName 7)) (gSeq (gAsg (gPure (gLc (gRng1 (aCons (gVar 4) aNil)) (gtName 9) (gB (gBin dLt (gBin dMod (gBin dDiv (gCB dInt (aCons (gBin dIx (gVar 0) (gBin dAdd (gBin dAdd (gVar 1) (gC (.int 14))) (gBin dMod (gCB dInt (aCons (gBin dAdd (gVar 9) (gBin dMul (gC (.int 5)) (gVar 6))) aNil)) (gC (.int 40))))) aNil)) (gBin dAdd (gC (.int 1)) (gBin dMod (gVar 7) (gC (.int 7))))) (gC (.int 5))) (gC (.int 2)))) (gVar 9) [9])) (gtName 8)) (gDrop (gApp 5 (gPure (eTup (aCons (gVar 8) (aCons (gBin dAdd (gBin dIx (eLst (aCons (gC (.int 0)) (aCons (gC (.int 1)) (aCons (gC (.int 2)) (aCons (gC (.int 3)) (aCons (gC (.int 4)) (aCons (gC (.int 6)) (aCons (gC (.int 12)) (aCons (gC (.int 60)) aNil))))))))) (gBin dMod (gBin dDiv (gVar 7) (gC (.int 7))) (gC (.int 8)))) (gBin dMod (gBin dDiv (gVar 7) (gC (.int 56))) (gC (.int 3)))) aNil))))))))
theorem s_turn {xs : List Int} {s i : Nat} {ρ : EnvD} (hl : xs.length = 170) (hx : ∀ z ∈ xs, 0 ≤ z ∧ z < 65536) (hs : s ≤ 8) (hi : i < 9) (h : ∃ (zs : List St) (t6 t7 t8 t9 t10 t11 : Option DV), ρ = [some (di xs), some (.int 10), some (.int 6), some (.int 7), some (.int (s : Int)), some (ssD zs), t6, t7, t8, t9, t10, t11] ∧ zs.length = i ∧ ∀ z ∈ zs, GS0 (s : Int) z) : ∃ ρ1 ρ2, gtName 6 (.int ((0 : Int) + (i : Int))) ρ = .ok ρ1 ∧ sB ρ1 = .nx ρ2 ∧ ∃ (zs : List St) (t6 t7 t8 t9 t10 t11 : Option DV), ρ2 = [some (di xs), some (.int 10), some (.int 6), some (.int 7), some (.int (s : Int)), some (ssD zs), t6, t7, t8, t9, t10, t11] ∧ zs.length = i + 1 ∧ ∀ z ∈ zs, GS0 (s : Int) z := by
  obtain ⟨zs, t6, t7, t8, t9, t10, t11, rfl, hz, hg⟩ := h
  have hd : ∀ n : Nat, n < 90 → 0 ≤ xs.getD n 0 ∧ xs.getD n 0 < 65536 := fun n hn => by rw [getD_lt (by omega)]; exact hx _ (List.getElem_mem _)
  have ix : dIx (di xs) (.int (10 + 2 + (0 + (i : Int)))) = .ok (.int (xs.getD (10 + 2 + (0 + (i : Int))).toNat 0)) := ixz (by omega) (by omega)
  have d0 := hd (10 + 2 + (0 + (i : Int))).toNat (by omega)
  generalize xs.getD (10 + 2 + (0 + (i : Int))).toNat 0 = d at ix d0
  have s1 : (gAsg (gPure (gCB dInt (aCons (gBin dIx (gVar 0) (gBin dAdd (gBin dAdd (gVar 1) (gC (.int 2))) (gVar 6))) aNil))) (gtName 7)) [some (di xs), some (.int 10), some (.int 6), some (.int 7), some (.int (s : Int)), some (ssD zs), some (.int ((0 : Int) + (i : Int))), t7, t8, t9, t10, t11] = .nx [some (di xs), some (.int 10), some (.int 6), some (.int 7), some (.int (s : Int)), some (ssD zs), some (.int ((0 : Int) + (i : Int))), some (.int d), t8, t9, t10, t11] := set_e ((cb1 ((bin_e rfl ((bin_e ((bin_e rfl rfl).trans dAdd_i) rfl).trans dAdd_i)).trans ix)).trans dInt_i)
  have me := mem_e (t8 := t8) (t9 := t9) (t10 := t10) (t11 := t11) (zs := zs) hl d0.1 hs (Nat.le_of_lt hi)
  have hm : ∀ e ∈ (intL s).filter (memP xs d (0 + (i : Int))), 0 ≤ e ∧ e < (s : Int) := fun e he => mem_ints.mp (List.mem_filter.mp he).1
  have hp : ((intL s).filter (memP xs d (0 + (i : Int)))).Pairwise (· < ·) := ints_asc.filter _
  generalize (intL s).filter (memP xs d (0 + (i : Int))) = ms at me hm hp
  have s2 : (gAsg (gPure (gLc (gRng1 (aCons (gVar 4) aNil)) (gtName 9) (gB (gBin dLt (gBin dMod (gBin dDiv (gCB dInt (aCons (gBin dIx (gVar 0) (gBin dAdd (gBin dAdd (gVar 1) (gC (.int 14))) (gBin dMod (gCB dInt (aCons (gBin dAdd (gVar 9) (gBin dMul (gC (.int 5)) (gVar 6))) aNil)) (gC (.int 40))))) aNil)) (gBin dAdd (gC (.int 1)) (gBin dMod (gVar 7) (gC (.int 7))))) (gC (.int 5))) (gC (.int 2)))) (gVar 9) [9])) (gtName 8)) [some (di xs), some (.int 10), some (.int 6), some (.int 7), some (.int (s : Int)), some (ssD zs), some (.int ((0 : Int) + (i : Int))), some (.int d), t8, t9, t10, t11] = .nx [some (di xs), some (.int 10), some (.int 6), some (.int 7), some (.int (s : Int)), some (ssD zs), some (.int ((0 : Int) + (i : Int))), some (.int d), some (di ms), t9, t10, t11] := set_e me
  obtain ⟨q, pq, q0, q1⟩ := price_ix (z := d / 7 % 8) (by omega) (by omega)
  have pe : (gBin dAdd (gBin dIx (eLst (aCons (gC (.int 0)) (aCons (gC (.int 1)) (aCons (gC (.int 2)) (aCons (gC (.int 3)) (aCons (gC (.int 4)) (aCons (gC (.int 6)) (aCons (gC (.int 12)) (aCons (gC (.int 60)) aNil))))))))) (gBin dMod (gBin dDiv (gVar 7) (gC (.int 7))) (gC (.int 8)))) (gBin dMod (gBin dDiv (gVar 7) (gC (.int 56))) (gC (.int 3)))) [some (di xs), some (.int 10), some (.int 6), some (.int 7), some (.int (s : Int)), some (ssD zs), some (.int ((0 : Int) + (i : Int))), some (.int d), some (di ms), t9, t10, t11] = .ok (.int (q + d / 56 % 3)) := (bin_e ((bin_e rfl ((bin_e ((bin_e rfl rfl).trans (dDiv_s (by decide) (by decide))) rfl).trans (dMod_i (by decide)))).trans pq) ((bin_e ((bin_e rfl rfl).trans (dDiv_s (by decide) (by decide))) rfl).trans (dMod_i (by decide)))).trans dAdd_i
  have gp : 0 ≤ q + d / 56 % 3 ∧ q + d / 56 % 3 ≤ 62 := by omega
  generalize q + d / 56 % 3 = p at pe gp
  have s3 : (gDrop (gApp 5 (gPure (eTup (aCons (gVar 8) (aCons (gBin dAdd (gBin dIx (eLst (aCons (gC (.int 0)) (aCons (gC (.int 1)) (aCons (gC (.int 2)) (aCons (gC (.int 3)) (aCons (gC (.int 4)) (aCons (gC (.int 6)) (aCons (gC (.int 12)) (aCons (gC (.int 60)) aNil))))))))) (gBin dMod (gBin dDiv (gVar 7) (gC (.int 7))) (gC (.int 8)))) (gBin dMod (gBin dDiv (gVar 7) (gC (.int 56))) (gC (.int 3)))) aNil)))))) [some (di xs), some (.int 10), some (.int 6), some (.int 7), some (.int (s : Int)), some (ssD zs), some (.int ((0 : Int) + (i : Int))), some (.int d), some (di ms), t9, t10, t11] = .nx [some (di xs), some (.int 10), some (.int 6), some (.int 7), some (.int (s : Int)), some (ssD (zs ++ [(ms, p)])), some (.int ((0 : Int) + (i : Int))), some (.int d), some (di ms), t9, t10, t11] := app_g (g := sD) (xs := zs) (x := (ms, p)) rfl (tup2 rfl pe) (by omega)
  refine ⟨[some (di xs), some (.int 10), some (.int 6), some (.int 7), some (.int (s : Int)), some (ssD zs), some (.int ((0 : Int) + (i : Int))), t7, t8, t9, t10, t11], [some (di xs), some (.int 10), some (.int 6), some (.int 7), some (.int (s : Int)), some (ssD (zs ++ [(ms, p)])), some (.int ((0 : Int) + (i : Int))), some (.int d), some (di ms), t9, t10, t11], rfl, ?_, zs ++ [(ms, p)], _, _, _, _, _, _, rfl, by rw [List.length_append, hz]; rfl, fun z hz => ?_⟩
  · unfold sB
    rw [ev_seq s1, ev_seq s2, s3]
  · rcases List.mem_append.mp hz with h | h
    · exact hg z h
    · rw [List.mem_singleton.mp h]
      exact ⟨hp, hm, gp⟩
def misP (zs : List St) (o : Int) : Bool := decide (((zs.filter fun z => decide (o ∈ z.1)).length : Int) = 0)
theorem mis_e {xs : List Int} {s : Nat} {zs : List St} {t6 t7 t8 t9 t10 t11 : Option DV} (hs : s ≤ 8) (hz : zs.length ≤ 9) : (gLc (gRng1 (aCons (gVar 4) aNil)) (gtName 9) (gB (gBin dEq (gCB dLen (aCons (gLc (gSeqI (gVar 5)) (gtTup [8, 11]) (gB (gBin dIn (gVar 9) (gVar 8))) (gC (.int 1)) [8, 11]) aNil)) (gC (.int 0)))) (gVar 9) [9]) [some (di xs), some (.int 10), some (.int 6), some (.int 7), some (.int (s : Int)), some (ssD zs), t6, t7, t8, t9, t10, t11] = .ok (di ((intL s).filter (misP zs))) := by
  unfold di
  refine ev_lc (rng_ints (i := (s : Int)) rfl rfl (by omega)) (lenG (by rw [ints_len]; omega)) (lcLoop_filt (f := DV.int) fun o _ => ?_)
  refine lc_b (ρ1 := [some (di xs), some (.int 10), some (.int 6), some (.int 7), some (.int (s : Int)), some (ssD zs), t6, t7, t8, some (.int o), t10, t11]) rfl (b_e (z := misP zs o) ?_) rfl
  have k : (gLc (gSeqI (gVar 5)) (gtTup [8, 11]) (gB (gBin dIn (gVar 9) (gVar 8))) (gC (.int 1)) [8, 11]) [some (di xs), some (.int 10), some (.int 6), some (.int 7), some (.int (s : Int)), some (ssD zs), t6, t7, t8, some (.int o), t10, t11] = .ok (.lst ((zs.filter fun z => decide (o ∈ z.1)).map fun _ => DV.int 1)) := ev_lc (seq_e (f := sD) (xs := zs) rfl) (lenG (by omega)) (lcLoop_filt fun z _ => lc_b (ρ1 := [some (di xs), some (.int 10), some (.int 6), some (.int 7), some (.int (s : Int)), some (ssD zs), t6, t7, some (di z.1), some (.int o), t10, some (.int z.2)]) rfl (b_e ((bin_e rfl rfl).trans in_i)) rfl)
  exact (bin_e (lenD_e (f := fun _ => DV.int 1) k) rfl).trans dEq_i
theorem mis_no {zs : List St} {z : St} {o : Int} (hz : z ∈ zs) (ho : o ∈ z.1) : misP zs o = false := by
  unfold misP
  refine decide_eq_false fun h => ?_
  have : z ∈ zs.filter fun z => decide (o ∈ z.1) := List.mem_filter.mpr ⟨hz, decide_eq_true ho⟩
  have := List.length_pos_of_mem this
  omega
theorem srt_ok {s : Nat} {zs : List St} {z : St} (hz : z ∈ zs) (hg : GS0 (s : Int) z) : GS0 (s : Int) (sortI (z.1 ++ (intL s).filter (misP zs)), z.2) := by
  have pm := sortI_perm (z.1 ++ (intL s).filter (misP zs))
  refine ⟨?_, fun e he => ?_, hg.2.2⟩
  · have nd : (z.1 ++ (intL s).filter (misP zs)).Nodup := by
      rw [List.nodup_append]
      refine ⟨hg.1.imp fun h => by omega, (ints_asc.filter _).imp fun h => by omega, fun a ha b hb h => ?_⟩
      subst h
      have := (List.mem_filter.mp hb).2
      rw [mis_no hz ha] at this
      exact Bool.false_ne_true this
    have nd2 : (sortI (z.1 ++ (intL s).filter (misP zs))).Nodup := pm.nodup_iff.mpr nd
    have so := sortI_sorted (z.1 ++ (intL s).filter (misP zs))
    exact (List.pairwise_and_iff.mpr ⟨so, nd2⟩).imp fun h => by omega
  · rcases List.mem_append.mp (pm.mem_iff.mp he) with h | h
    · exact hg.2.1 e h
    · exact mem_ints.mp (List.mem_filter.mp h).1
theorem dSorted_i {xs : List Int} : dSorted [di xs] = .ok (di (sortI xs)) := by
  unfold dSorted
  dsimp only
  rw [iLst_i]
theorem setD_g {α : Type} {g : α → DV} {xs : List α} {z : Int} {x : α} (k : Nat) (e : z = (k : Int)) (h : k < xs.length) : setD (.lst (xs.map g)) (.int z) (g x) = .ok (.lst ((xs.set k x).map g)) := by
  subst e
  unfold setD
  dsimp only
  rw [List.length_map, ixN_nat h]
  dsimp only
  rw [List.map_set]
theorem setI_e {i : Nat} {gk g : GE} {ρ : EnvD} {x x' k y : DV} (h1 : g ρ = .ok y) (h2 : lk ρ i = .ok x) (h3 : gk ρ = .ok k) (h4 : setD x k y = .ok x') : gSetI i gk (gPure g) ρ = .nx (ρ.set i (some x')) := by
  unfold gSetI
  rw [pure_e h1]
  dsimp only
  rw [h2]
  dsimp only
  rw [h3]
  dsimp only
  rw [h4]
def misB : GS := (gSeq (gAsg (gPure (gLc (gRng1 (aCons (gVar 4) aNil)) (gtName 9) (gB (gBin dEq (gCB dLen (aCons (gLc (gSeqI (gVar 5)) (gtTup [8, 11]) (gB (gBin dIn (gVar 9) (gVar 8))) (gC (.int 1)) [8, 11]) aNil)) (gC (.int 0)))) (gVar 9) [9])) (gtName 10)) (gSeq (gAsg (gPure (gBin dMod (gCB dInt (aCons (gBin dIx (gVar 0) (gBin dAdd (gVar 1) (gC (.int 55)))) aNil)) (gCB dLen (aCons (gVar 5) aNil)))) (gtName 6)) (gSetI 5 (gVar 6) (gPure (eTup (aCons (gCB dSorted (aCons (gBin dAdd (gBin dIx (gBin dIx (gVar 5) (gVar 6)) (gC (.int 0))) (gVar 10)) aNil)) (aCons (gBin dIx (gBin dIx (gVar 5) (gVar 6)) (gC (.int 1))) aNil)))))))
theorem mb_ok {xs : List Int} {s : Nat} {zs : List St} {t6 t7 t8 t9 t10 t11 : Option DV} (hl : xs.length = 170) (hx : ∀ z ∈ xs, 0 ≤ z ∧ z < 65536) (hs : s ≤ 8) (hz : zs.length ≤ 9) (hz1 : 1 ≤ zs.length) (hg : ∀ z ∈ zs, GS0 (s : Int) z) : ∃ (zs2 : List St) (u6 u10 : Option DV), misB [some (di xs), some (.int 10), some (.int 6), some (.int 7), some (.int (s : Int)), some (ssD zs), t6, t7, t8, t9, t10, t11] = .nx [some (di xs), some (.int 10), some (.int 6), some (.int 7), some (.int (s : Int)), some (ssD zs2), u6, t7, t8, t9, u10, t11] ∧ zs2.length = zs.length ∧ ∀ z ∈ zs2, GS0 (s : Int) z := by
  have ix : dIx (di xs) (.int (10 + 55)) = .ok (.int (xs.getD ((10 + 55 : Int)).toNat 0)) := ixz (by decide) (by rw [hl]; decide)
  have s1 : (gAsg (gPure (gLc (gRng1 (aCons (gVar 4) aNil)) (gtName 9) (gB (gBin dEq (gCB dLen (aCons (gLc (gSeqI (gVar 5)) (gtTup [8, 11]) (gB (gBin dIn (gVar 9) (gVar 8))) (gC (.int 1)) [8, 11]) aNil)) (gC (.int 0)))) (gVar 9) [9])) (gtName 10)) [some (di xs), some (.int 10), some (.int 6), some (.int 7), some (.int (s : Int)), some (ssD zs), t6, t7, t8, t9, t10, t11] = .nx [some (di xs), some (.int 10), some (.int 6), some (.int 7), some (.int (s : Int)), some (ssD zs), t6, t7, t8, t9, some (di ((intL s).filter (misP zs))), t11] := set_e (mis_e hs hz)
  have s2 : (gAsg (gPure (gBin dMod (gCB dInt (aCons (gBin dIx (gVar 0) (gBin dAdd (gVar 1) (gC (.int 55)))) aNil)) (gCB dLen (aCons (gVar 5) aNil)))) (gtName 6)) [some (di xs), some (.int 10), some (.int 6), some (.int 7), some (.int (s : Int)), some (ssD zs), t6, t7, t8, t9, some (di ((intL s).filter (misP zs))), t11] = .nx ([some (di xs), some (.int 10), some (.int 6), some (.int 7), some (.int (s : Int)), some (ssD zs), t6, t7, t8, t9, some (di ((intL s).filter (misP zs))), t11].set 6 (some (.int (xs.getD ((10 + 55 : Int)).toNat 0 % (zs.length : Int))))) := set_e ((bin_e ((cb1 ((bin_e rfl ((bin_e rfl rfl).trans dAdd_i)).trans ix)).trans dInt_i) (len_e (g := sD) (xs := zs) rfl)).trans (dMod_i (by omega)))
  have k0 : 0 ≤ xs.getD ((10 + 55 : Int)).toNat 0 % (zs.length : Int) ∧ xs.getD ((10 + 55 : Int)).toNat 0 % (zs.length : Int) < (zs.length : Int) := ⟨Int.emod_nonneg _ (by omega), Int.emod_lt_of_pos _ (by omega)⟩
  generalize xs.getD ((10 + 55 : Int)).toNat 0 % (zs.length : Int) = k at s2 k0
  have hk : k.toNat < zs.length := by omega
  have g5 : dIx (ssD zs) (.int k) = .ok (sD zs[k.toNat]) := dIx_g k.toNat (by omega) hk
  have gz := hg _ (List.getElem_mem hk)
  have gm : zs[k.toNat] ∈ zs := List.getElem_mem hk
  have l1 := GS0.len gz (by omega)
  have l2 : ((intL s).filter (misP zs)).length ≤ 8 := Nat.le_trans (List.length_filter_le _ _) (by rw [ints_len]; exact hs)
  have s3 : (gSetI 5 (gVar 6) (gPure (eTup (aCons (gCB dSorted (aCons (gBin dAdd (gBin dIx (gBin dIx (gVar 5) (gVar 6)) (gC (.int 0))) (gVar 10)) aNil)) (aCons (gBin dIx (gBin dIx (gVar 5) (gVar 6)) (gC (.int 1))) aNil))))) [some (di xs), some (.int 10), some (.int 6), some (.int 7), some (.int (s : Int)), some (ssD zs), some (.int k), t7, t8, t9, some (di ((intL s).filter (misP zs))), t11] = .nx [some (di xs), some (.int 10), some (.int 6), some (.int 7), some (.int (s : Int)), some (ssD (zs.set k.toNat (sortI (zs[k.toNat].1 ++ (intL s).filter (misP zs)), zs[k.toNat].2))), some (.int k), t7, t8, t9, some (di ((intL s).filter (misP zs))), t11] := setI_e (tup2 ((cb1 ((bin_e ((bin_e ((bin_e rfl rfl).trans g5) rfl).trans ix0) rfl).trans (cat_e (g := DV.int) (by omega)))).trans dSorted_i) ((bin_e ((bin_e rfl rfl).trans g5) rfl).trans ix1)) rfl rfl (setD_g (g := sD) (x := (sortI (zs[k.toNat].1 ++ (intL s).filter (misP zs)), zs[k.toNat].2)) k.toNat (by omega) hk)
  refine ⟨_, _, _, (by unfold misB; rw [ev_seq s1, ev_seq s2]; exact s3), by rw [List.length_set], fun z hz => ?_⟩
  rcases List.mem_or_eq_of_mem_set hz with h | h
  · exact hg z h
  · rw [h]
    exact srt_ok gm gz
theorem sets_ok {xs : List Int} (hl : xs.length = 170) (hx : ∀ z ∈ xs, 0 ≤ z ∧ z < 65536) : ∃ (s : Nat) (zs : List St), m__law_sets [di xs, .int 10, .int 6, .int 7] = .ok (.tup [.int (s : Int), ssD zs]) ∧ 1 ≤ s ∧ s ≤ 6 ∧ 1 ≤ zs.length ∧ zs.length ≤ 7 ∧ ∀ z ∈ zs, GS0 (s : Int) z := by
  have st : startD 12 [di xs, .int 10, .int 6, .int 7] = [some (di xs), some (.int 10), some (.int 6), some (.int 7), none, none, none, none, none, none, none, none] := rfl
  have hd : ∀ n : Nat, n < 90 → 0 ≤ xs.getD n 0 ∧ xs.getD n 0 < 65536 := fun n hn => by rw [getD_lt (by omega)]; exact hx _ (List.getElem_mem _)
  have ixa : dIx (di xs) (.int 10) = .ok (.int (xs.getD ((10 : Int)).toNat 0)) := ixz (by decide) (by rw [hl]; decide)
  have da := hd ((10 : Int)).toNat (by decide)
  generalize xs.getD ((10 : Int)).toNat 0 = a at ixa da
  have ixb : dIx (di xs) (.int (10 + 1)) = .ok (.int (xs.getD ((10 + 1 : Int)).toNat 0)) := ixz (by decide) (by rw [hl]; decide)
  have db := hd ((10 + 1 : Int)).toNat (by decide)
  generalize xs.getD ((10 + 1 : Int)).toNat 0 = b at ixb db
  have ixc : dIx (di xs) (.int (10 + 54)) = .ok (.int (xs.getD ((10 + 54 : Int)).toNat 0)) := ixz (by decide) (by rw [hl]; decide)
  generalize xs.getD ((10 + 54 : Int)).toNat 0 = c at ixc
  obtain ⟨s, es⟩ : ∃ s : Nat, 1 + a % 6 = (s : Int) := ⟨(1 + a % 6).toNat, by omega⟩
  obtain ⟨n, en⟩ : ∃ n : Nat, 1 + b % 7 = (n : Int) := ⟨(1 + b % 7).toNat, by omega⟩
  have s0 : (gAsg (gPure (gBin dAdd (gC (.int 1)) (gBin dMod (gCB dInt (aCons (gBin dIx (gVar 0) (gVar 1)) aNil)) (gVar 2)))) (gtName 4)) [some (di xs), some (.int 10), some (.int 6), some (.int 7), none, none, none, none, none, none, none, none] = .nx [some (di xs), some (.int 10), some (.int 6), some (.int 7), some (.int (s : Int)), none, none, none, none, none, none, none] := by rw [← es]; exact set_e ((bin_e rfl ((bin_e ((cb1 ((bin_e rfl rfl).trans ixa)).trans dInt_i) rfl).trans (dMod_i (by decide)))).trans dAdd_i)
  have s1 : (gAsg (gPure (eLst aNil)) (gtName 5)) [some (di xs), some (.int 10), some (.int 6), some (.int 7), some (.int (s : Int)), none, none, none, none, none, none, none] = .nx [some (di xs), some (.int 10), some (.int 6), some (.int 7), some (.int (s : Int)), some (ssD []), none, none, none, none, none, none] := rfl
  obtain ⟨ρ', f1, zs, t6, t7, t8, t9, t10, t11, e1, hz, hg⟩ := forG_rngB (tg := gtName 6) (b := sB) n (fun i ρ => ∃ (zs : List St) (t6 t7 t8 t9 t10 t11 : Option DV), ρ = [some (di xs), some (.int 10), some (.int 6), some (.int 7), some (.int (s : Int)), some (ssD zs), t6, t7, t8, t9, t10, t11] ∧ zs.length = i ∧ ∀ z ∈ zs, GS0 (s : Int) z) (fun i ρ hi h => s_turn hl hx (by omega) (by omega) h) n 0 [some (di xs), some (.int 10), some (.int 6), some (.int 7), some (.int (s : Int)), some (ssD []), none, none, none, none, none, none] (by omega) ⟨[], none, none, none, none, none, none, rfl, rfl, fun z hz => by cases hz⟩
  have s2 : gFor (gRng1 (aCons (gBin dAdd (gC (.int 1)) (gBin dMod (gCB dInt (aCons (gBin dIx (gVar 0) (gBin dAdd (gVar 1) (gC (.int 1)))) aNil)) (gVar 3))) aNil)) (gtName 6) sB [some (di xs), some (.int 10), some (.int 6), some (.int 7), some (.int (s : Int)), some (ssD []), none, none, none, none, none, none] = .nx ρ' := ev_for (rng1_e (i := (n : Int)) (by rw [← en]; exact (bin_e rfl ((bin_e ((cb1 ((bin_e rfl ((bin_e rfl rfl).trans dAdd_i)).trans ixb)).trans dInt_i) rfl).trans (dMod_i (by decide)))).trans dAdd_i) rfl (by omega)) (by rw [rngD_eq]; exact f1)
  rw [Nat.zero_add] at hz
  obtain ⟨zs2, u6, u10, e2, hz2, hg2⟩ := mb_ok (t6 := t6) (t7 := t7) (t8 := t8) (t9 := t9) (t10 := t10) (t11 := t11) hl hx (by omega : s ≤ 8) (by omega : zs.length ≤ 9) (by omega) hg
  have s3 : ∃ (zs3 : List St) (u6 u10 : Option DV), gIfS (gB (gBin dGt (gBin dMod (gCB dInt (aCons (gBin dIx (gVar 0) (gBin dAdd (gVar 1) (gC (.int 54)))) aNil)) (gC (.int 4))) (gC (.int 0)))) misB gNext [some (di xs), some (.int 10), some (.int 6), some (.int 7), some (.int (s : Int)), some (ssD zs), t6, t7, t8, t9, t10, t11] = .nx [some (di xs), some (.int 10), some (.int 6), some (.int 7), some (.int (s : Int)), some (ssD zs3), u6, t7, t8, t9, u10, t11] ∧ zs3.length = n ∧ ∀ z ∈ zs3, GS0 (s : Int) z := by
    have t : (gB (gBin dGt (gBin dMod (gCB dInt (aCons (gBin dIx (gVar 0) (gBin dAdd (gVar 1) (gC (.int 54)))) aNil)) (gC (.int 4))) (gC (.int 0)))) [some (di xs), some (.int 10), some (.int 6), some (.int 7), some (.int (s : Int)), some (ssD zs), t6, t7, t8, t9, t10, t11] = .ok (decide (0 < c % 4)) := b_e ((bin_e ((bin_e ((cb1 ((bin_e rfl ((bin_e rfl rfl).trans dAdd_i)).trans ixc)).trans dInt_i) rfl).trans (dMod_i (by decide))) rfl).trans dGt_i)
    rw [ev_ifS t]
    by_cases h : 0 < c % 4
    · rw [decide_eq_true h, if_pos rfl]
      exact ⟨zs2, u6, u10, e2, by omega, hg2⟩
    · rw [decide_eq_false h, if_neg Bool.false_ne_true]
      exact ⟨zs, t6, t10, rfl, hz, hg⟩
  obtain ⟨zs3, v6, v10, e3, hz3, hg3⟩ := s3
  refine ⟨s, zs3, ?_, by omega, by omega, by omega, by omega, hg3⟩
  unfold m__law_sets runB b__law_sets
  rw [st, ev_seq s0, ev_seq s1]
  show finB (gSeq (gFor _ _ sB) (gSeq (gIfS _ misB gNext) _) _) = _
  rw [ev_seq s2, e1, ev_seq e3, ev_ret (xtup2 (a := gPure (gVar 4)) (b := gMove 5) (pure_e rfl) rfl)]
  rfl
end M
end

/-! text C3 -/
section
set_option maxRecDepth 100000
set_option maxHeartbeats 4000000
namespace M
open PySem DL
theorem low_lt {p q p' q' : Int} (h : 0 < q) (h' : 0 < q') : (low p q).1 * (low p' q').2 < (low p' q').1 * (low p q).2 ↔ p * q' < p' * q := by
  have c1 := low_cross (p := p) (q := q) (by omega)
  have c2 := low_cross (p := p') (q := q') (by omega)
  have p1 := low_pos (p := p) (q := q) (by omega)
  have p2 := low_pos (p := p') (q := q') (by omega)
  generalize low p q = x at c1 p1
  generalize low p' q' = y at c2 p2
  have qq : 0 < q * q' := Int.mul_pos h h'
  have bb : 0 < x.2 * y.2 := Int.mul_pos p1 p2
  have e1 : x.1 * y.2 * (q * q') = p * q' * (x.2 * y.2) := by
    calc x.1 * y.2 * (q * q') = (x.1 * q) * (y.2 * q') := by ac_rfl
      _ = (p * x.2) * (y.2 * q') := by rw [c1]
      _ = p * q' * (x.2 * y.2) := by ac_rfl
  have e2 : y.1 * x.2 * (q * q') = p' * q * (x.2 * y.2) := by
    calc y.1 * x.2 * (q * q') = (y.1 * q') * (x.2 * q) := by ac_rfl
      _ = (p' * y.2) * (x.2 * q) := by rw [c2]
      _ = p' * q * (x.2 * y.2) := by ac_rfl
  constructor
  · intro z
    have z2 := Int.mul_lt_mul_of_pos_right z qq
    rw [e1, e2] at z2
    exact Int.lt_of_mul_lt_mul_right z2 (Int.le_of_lt bb)
  · intro z
    have z2 := Int.mul_lt_mul_of_pos_right z bb
    rw [← e1, ← e2] at z2
    exact Int.lt_of_mul_lt_mul_right z2 (Int.le_of_lt qq)
theorem sm_low {p : Int} {m : Nat} (h : 0 < m) (hp : p.natAbs ≤ 1000) (hm : m ≤ 1000) : Sm (low p (m : Int)) := by
  have := low_le (p := p) (q := (m : Int)) (by omega)
  exact ⟨Nat.lt_of_lt_of_le (by omega : (low p (m : Int)).1.natAbs < 2 ^ 10) (Nat.pow_le_pow_right (by decide) (by decide)), Nat.lt_of_lt_of_le (by omega : (low p (m : Int)).2.natAbs < 2 ^ 10) (Nat.pow_le_pow_right (by decide) (by decide))⟩
theorem frac_s {p : Int} {m : Nat} (h : 0 < m) (hm : m ≤ 1000) : m_fraction [.int p, .int (m : Int)] = .ok (pr (low p (m : Int))) := fraction_ok (by omega) (Nat.lt_of_le_of_lt (Nat.log2_le_self _) (by omega))
theorem lowest_s {p : Int} {m : Nat} (h : 0 < m) (hm : m ≤ 1000) : m__law_lowest [.int p, .int (m : Int)] = .ok (pr (low p (m : Int))) := lowest_ok (by omega) (Nat.lt_of_lt_of_le (by omega : (m : Int).natAbs < 2 ^ 10) (Nat.pow_le_pow_right (by decide) (by decide)))
/-! the best set -/
abbrev Bst := Int × Nat × Nat
def lessB (p : Int) (m : Nat) : Option Bst → Bool
  | none => true
  | some q => decide (p * (q.2.1 : Int) < q.1 * (m : Int))
def fresh (cv : Int → Bool) (z : St) : List Int := z.1.filter fun e => !cv e
def stepZ (cv : Int → Bool) (z : St) (i : Nat) (b : Option Bst) : Option Bst := if (decide (0 < (fresh cv z).length) && lessB z.2 (fresh cv z).length b) = true then some (z.2, (fresh cv z).length, i) else b
def bstN (cv : Int → Bool) (zs : List St) : Nat → Option Bst
  | 0 => none
  | i + 1 => stepZ cv (zs.getD i ([], 0)) i (bstN cv zs i)
abbrev pick (cv : Int → Bool) (zs : List St) : Option Bst := bstN cv zs zs.length
def BO (cv : Int → Bool) (zs : List St) (q : Bst) : Prop := q.2.2 < zs.length ∧ q.1 = (zs.getD q.2.2 ([], 0)).2 ∧ q.2.1 = (fresh cv (zs.getD q.2.2 ([], 0))).length ∧ 0 < q.2.1
theorem bst_ok {cv : Int → Bool} {zs : List St} : ∀ {i : Nat} {q : Bst}, i ≤ zs.length → bstN cv zs i = some q → BO cv zs q
  | 0, q, _, h => by cases h
  | i + 1, q, hi, h => by
    unfold bstN stepZ at h
    split at h
    · rename_i c
      have c := of_decide_eq_true ((Bool.and_eq_true _ _).mp c).1
      cases h
      exact ⟨hi, rfl, rfl, c⟩
    · exact bst_ok (Nat.le_of_succ_le hi) h
theorem bst_none {cv : Int → Bool} {zs : List St} (h : ∀ z ∈ zs, fresh cv z = []) : ∀ {i : Nat}, i ≤ zs.length → bstN cv zs i = none
  | 0, _ => rfl
  | i + 1, hi => by
    unfold bstN stepZ
    have e : fresh cv (zs.getD i ([], 0)) = [] := by rw [getD_lt hi]; exact h _ (List.getElem_mem _)
    rw [e]
    exact bst_none h (Nat.le_of_succ_le hi)
theorem BO.sz {cv : Int → Bool} {s : Int} {zs : List St} {q : Bst} (hs : s ≤ 8) (hg : ∀ z ∈ zs, GS0 s z) (h : BO cv zs q) : q.2.1 ≤ 8 ∧ 0 ≤ q.1 ∧ q.1 ≤ 62 := by
  obtain ⟨h1, h2, h3, h4⟩ := h
  have g := hg _ (List.getElem_mem h1)
  rw [getD_lt h1] at h2 h3
  have := GS0.len g hs
  have f : (fresh cv zs[q.2.2]).length ≤ zs[q.2.2].1.length := List.length_filter_le _ _
  have := g.2.2
  exact ⟨by omega, by omega, by omega⟩
theorem and_t {s t : GT} {ρ : EnvD} {y : Bool} (h1 : s ρ = .ok true) (h2 : t ρ = .ok y) : gAnd s t ρ = .ok y := by
  unfold gAnd
  rw [h1]
  exact h2
theorem or_t {s t : GT} {ρ : EnvD} (h1 : s ρ = .ok true) : gOr s t ρ = .ok true := by
  unfold gOr
  rw [h1]
  rfl
theorem or_f {s t : GT} {ρ : EnvD} {y : Bool} (h1 : s ρ = .ok false) (h2 : t ρ = .ok y) : gOr s t ρ = .ok y := by
  unfold gOr
  rw [h1]
  exact h2
theorem asg2 {g : GE} {i j : Nat} {ρ ρ' : EnvD} {d : DV} (h : g ρ = .ok d) (h2 : gtTup [i, j] d ρ = .ok ρ') : gAsg (gPure g) (gtTup [i, j]) ρ = .nx ρ' := by
  unfold gAsg
  rw [ev_pure, h]
  dsimp only [Rs.bind]
  rw [h2]
theorem if_t {c : GT} {a b : GE} {ρ : EnvD} {z : Bool} (h : c ρ = .ok z) : gIf c a b ρ = if z = true then a ρ else b ρ := by
  unfold gIf
  rw [h]
def bDV : Option Bst → DV
  | none => .non
  | some q => .tup [pr (low q.1 (q.2.1 : Int)), .int (q.2.2 : Int)]
def cvL (cov : List Int) (e : Int) : Bool := decide (e ∈ cov)
theorem fresh_e {cov : List Int} {z : St} {ρ : EnvD} {j k : Nat} {gs : GE} (hz : z.1.length ≤ 1000) (h1 : gs ρ = .ok (di z.1)) (hk : ∀ o, lk ((wipeD ρ [k]).set k (some (.int o))) j = .ok (di cov)) (hi : ∀ o, lk ((wipeD ρ [k]).set k (some (.int o))) k = .ok (.int o)) : gLc (gSeqI gs) (gtName k) (gB (gBin dNotIn (gVar k) (gVar j))) (gVar k) [k] ρ = .ok (di (fresh (cvL cov) z)) := by
  unfold di fresh
  refine ev_lc (seq_e (f := DV.int) (xs := z.1) h1) (lenG hz) (lcLoop_filt (f := DV.int) fun o _ => lc_b (ρ1 := (wipeD ρ [k]).set k (some (.int o))) rfl (b_e ((bin_e (hi o) (hk o)).trans notin_i)) (hi o))
def nB : GS := (gSeq (gAsg (gPure (gBin dIx (gVar 0) (gVar 3))) (gtTup [4, 5])) (gSeq (gAsg (gPure (gCB dLen (aCons (gLc (gSeqI (gVar 4)) (gtName 7) (gB (gBin dNotIn (gVar 7) (gVar 1))) (gVar 7) [7]) aNil))) (gtName 6)) (gIfS (gAnd (gB (gBin dGt (gVar 6) (gC (.int 0)))) (gOr (gB (gBin dIsN (gVar 2) (gC .non))) (gB (gCB m_is_less (aCons (gCB m_fraction (aCons (gVar 5) (aCons (gVar 6) aNil))) (aCons (gBin dIx (gVar 2) (gC (.int 0))) aNil)))))) (gAsg (gPure (eTup (aCons (gCB m_fraction (aCons (gVar 5) (aCons (gVar 6) aNil))) (aCons (gVar 3) aNil)))) (gtName 2)) gNext)))
theorem n_step {s : Int} {i : Nat} {zs : List St} {cov : List Int} {z : St} {b : Option Bst} {t4 t5 t6 t7 : Option DV} (hs : s ≤ 8) (hz : GS0 s z) (g : dIx (ssD zs) (.int ((0 : Int) + (i : Int))) = .ok (sD z)) (hb : ∀ q, b = some q → 0 < q.2.1 ∧ q.2.1 ≤ 8 ∧ 0 ≤ q.1 ∧ q.1 ≤ 62) : ∃ u4 u5 u6 u7, nB [some (ssD zs), some (di cov), some (bDV b), some (.int ((0 : Int) + (i : Int))), t4, t5, t6, t7] = .nx [some (ssD zs), some (di cov), some (bDV (stepZ (cvL cov) z i b)), some (.int ((0 : Int) + (i : Int))), u4, u5, u6, u7] := by
  have lz := hz.len hs
  have s1 : (gAsg (gPure (gBin dIx (gVar 0) (gVar 3))) (gtTup [4, 5])) [some (ssD zs), some (di cov), some (bDV b), some (.int ((0 : Int) + (i : Int))), t4, t5, t6, t7] = .nx [some (ssD zs), some (di cov), some (bDV b), some (.int ((0 : Int) + (i : Int))), some (di z.1), some (.int z.2), t6, t7] := asg2 ((bin_e rfl rfl).trans g) rfl
  have s2 : (gAsg (gPure (gCB dLen (aCons (gLc (gSeqI (gVar 4)) (gtName 7) (gB (gBin dNotIn (gVar 7) (gVar 1))) (gVar 7) [7]) aNil))) (gtName 6)) [some (ssD zs), some (di cov), some (bDV b), some (.int ((0 : Int) + (i : Int))), some (di z.1), some (.int z.2), t6, t7] = .nx [some (ssD zs), some (di cov), some (bDV b), some (.int ((0 : Int) + (i : Int))), some (di z.1), some (.int z.2), some (.int ((fresh (cvL cov) z).length : Int)), t7] := set_e (lenD_e (f := DV.int) (fresh_e (z := z) (by omega) rfl (fun _ => rfl) fun _ => rfl))
  have lf : (fresh (cvL cov) z).length ≤ z.1.length := List.length_filter_le _ _
  have tm : (gB (gBin dGt (gVar 6) (gC (.int 0)))) [some (ssD zs), some (di cov), some (bDV b), some (.int ((0 : Int) + (i : Int))), some (di z.1), some (.int z.2), some (.int ((fresh (cvL cov) z).length : Int)), t7] = .ok (decide ((0 : Int) < ((fresh (cvL cov) z).length : Int))) := b_e ((bin_e rfl rfl).trans dGt_i)
  unfold nB stepZ
  rw [ev_seq s1, ev_seq s2]
  clear s1 s2
  generalize (fresh (cvL cov) z).length = m at tm lf ⊢
  by_cases m0 : 0 < m
  · rw [decide_eq_true (by omega : (0 : Int) < (m : Int))] at tm
    rw [decide_eq_true m0, Bool.true_and]
    have tl : (gOr (gB (gBin dIsN (gVar 2) (gC .non))) (gB (gCB m_is_less (aCons (gCB m_fraction (aCons (gVar 5) (aCons (gVar 6) aNil))) (aCons (gBin dIx (gVar 2) (gC (.int 0))) aNil))))) [some (ssD zs), some (di cov), some (bDV b), some (.int ((0 : Int) + (i : Int))), some (di z.1), some (.int z.2), some (.int (m : Int)), t7] = .ok (lessB z.2 m b) := by
      cases b with
      | none => exact or_t (b_e (z := true) ((bin_e rfl rfl).trans rfl))
      | some q =>
        obtain ⟨q0, q8, p0, p62⟩ := hb q rfl
        have gz := hz.2.2
        refine or_f (b_e (z := false) ((bin_e rfl rfl).trans rfl)) (b_e ((cb2 ((cb2 rfl rfl).trans (frac_s m0 (by omega))) ((bin_e rfl rfl).trans ix0)).trans ((less_e (sm_low m0 (by omega) (by omega)) (sm_low q0 (by omega) (by omega))).trans ?_)))
        have e : decide ((low z.2 (m : Int)).1 * (low q.1 (q.2.1 : Int)).2 < (low q.1 (q.2.1 : Int)).1 * (low z.2 (m : Int)).2) = lessB z.2 m (some q) := by
          unfold lessB
          exact decide_eq_decide.mpr (low_lt (by omega) (by omega))
        rw [e]
    rw [ev_ifS (and_t tm tl)]
    cases lessB z.2 m b with
    | false => exact ⟨_, _, _, _, rfl⟩
    | true =>
      rw [if_pos rfl, if_pos rfl]
      exact ⟨_, _, _, _, set_e (d := bDV (some (z.2, m, i))) (tup2 ((cb2 rfl rfl).trans (frac_s (p := z.2) (m := m) m0 (by omega))) (by show Rs.ok (DV.int ((0 : Int) + (i : Int))) = _; rw [Int.zero_add]))⟩
  · rw [decide_eq_false (by omega : ¬ (0 : Int) < (m : Int))] at tm
    rw [decide_eq_false m0, Bool.false_and]
    rw [ev_ifS (and_f tm)]
    exact ⟨_, _, _, _, rfl⟩
def kD : Option Bst → DV
  | none => .non
  | some q => .int (q.2.2 : Int)
theorem next_ok {s : Int} {zs : List St} {cov : List Int} (hs : s ≤ 8) (hl : zs.length ≤ 9) (hg : ∀ z ∈ zs, GS0 s z) : m_next_set [ssD zs, di cov] = .ok (kD (pick (cvL cov) zs)) := by
  have st : startD 8 [ssD zs, di cov] = [some (ssD zs), some (di cov), none, none, none, none, none, none] := rfl
  have s0 : (gAsg (gPure (gC .non)) (gtName 2)) [some (ssD zs), some (di cov), none, none, none, none, none, none] = .nx [some (ssD zs), some (di cov), some (bDV (bstN (cvL cov) zs 0)), none, none, none, none, none] := rfl
  obtain ⟨ρ', f1, t3, t4, t5, t6, t7, e1⟩ := forG_rngB (tg := gtName 3) (b := nB) zs.length (fun i ρ => ∃ t3 t4 t5 t6 t7 : Option DV, ρ = [some (ssD zs), some (di cov), some (bDV (bstN (cvL cov) zs i)), t3, t4, t5, t6, t7]) (fun i ρ hi h => by
    obtain ⟨t3, t4, t5, t6, t7, rfl⟩ := h
    have g : dIx (ssD zs) (.int ((0 : Int) + (i : Int))) = .ok (sD zs[i]) := dIx_g (g := sD) (xs := zs) i (by omega) hi
    have gz := hg _ (List.getElem_mem hi)
    have e : bstN (cvL cov) zs (i + 1) = stepZ (cvL cov) zs[i] i (bstN (cvL cov) zs i) := by
      rw [← getD_lt (d := ([], 0)) hi]
      rfl
    rw [e]
    generalize zs[i] = z at g gz
    obtain ⟨u4, u5, u6, u7, k⟩ := n_step (cov := cov) (b := bstN (cvL cov) zs i) (t4 := t4) (t5 := t5) (t6 := t6) (t7 := t7) hs gz g (fun q hq => by
      have k := bst_ok (Nat.le_of_lt hi) hq
      have k2 := k.sz hs hg
      exact ⟨k.2.2.2, k2⟩)
    exact ⟨_, _, rfl, k, _, _, _, _, _, rfl⟩) zs.length 0 [some (ssD zs), some (di cov), some (bDV (bstN (cvL cov) zs 0)), none, none, none, none, none] (by omega) ⟨_, _, _, _, _, rfl⟩
  rw [Nat.zero_add] at e1
  have s1 : gFor (gRng1 (aCons (gCB dLen (aCons (gVar 0) aNil)) aNil)) (gtName 3) nB [some (ssD zs), some (di cov), some (bDV (bstN (cvL cov) zs 0)), none, none, none, none, none] = .nx ρ' := ev_for (rng1_e (len_e (g := sD) (xs := zs) rfl) rfl (by omega)) (by rw [rngD_eq]; exact f1)
  unfold m_next_set runB b_next_set
  rw [st, ev_seq s0]
  show finB (gSeq (gFor _ _ nB) _ _) = _
  rw [ev_seq s1, e1]
  show _ = Rs.ok (kD (bstN (cvL cov) zs zs.length))
  cases bstN (cvL cov) zs zs.length with
  | none => rw [ret_e (d := .non) ((if_t (b_e (z := true) ((bin_e rfl rfl).trans rfl))).trans (by rw [if_pos rfl]; rfl))]; rfl
  | some q => rw [ret_e (d := .int (q.2.2 : Int)) ((if_t (b_e (z := false) ((bin_e rfl rfl).trans rfl))).trans (by rw [if_neg Bool.false_ne_true]; exact (bin_e rfl rfl).trans ix1))]; rfl
end M
end

/-! text C4 -/
section
set_option maxRecDepth 100000
set_option maxHeartbeats 4000000
namespace M
open PySem DL
abbrev Shs := List (Option (Int × Int))
def setAll (v : Int × Int) : List Int → Shs → Shs
  | [], sh => sh
  | e :: es, sh => setAll v es (sh.set e.toNat (some v))
def cnt : Shs → Nat
  | [] => 0
  | x :: xs => (if x.isSome = true then 1 else 0) + cnt xs
theorem cnt_le : ∀ sh : Shs, cnt sh ≤ sh.length
  | [] => Nat.le_refl _
  | x :: xs => by
    have := cnt_le xs
    unfold cnt
    rw [List.length_cons]
    split <;> omega
theorem cnt_set {v : Int × Int} : ∀ (sh : Shs) (i : Nat), i < sh.length → sh.getD i none = none → cnt (sh.set i (some v)) = cnt sh + 1
  | [], i, h, _ => by simp at h
  | x :: sh, 0, _, h => by
    have h : x = none := h
    subst h
    show (if (some v).isSome = true then 1 else 0) + cnt sh = (if (none : Option (Int × Int)).isSome = true then 1 else 0) + cnt sh + 1
    simp
    omega
  | x :: sh, i + 1, hi, h => by
    have ih := cnt_set (v := v) sh i (by simpa using hi) (by simpa using h)
    show (if x.isSome = true then 1 else 0) + cnt (sh.set i (some v)) = (if x.isSome = true then 1 else 0) + cnt sh + 1
    rw [ih]
    omega
theorem cnt_lt : ∀ sh : Shs, cnt sh < sh.length ↔ none ∈ sh
  | [] => by simp [cnt]
  | x :: sh => by
    have ih := cnt_lt sh
    have := cnt_le sh
    cases x with
    | none =>
      have e : cnt (none :: sh) = cnt sh := by show (if (none : Option (Int × Int)).isSome = true then 1 else 0) + cnt sh = cnt sh; simp
      rw [e, List.length_cons]
      exact ⟨fun _ => List.mem_cons_self, fun _ => by omega⟩
    | some y =>
      have e : cnt (some y :: sh) = 1 + cnt sh := by show (if (some y).isSome = true then 1 else 0) + cnt sh = 1 + cnt sh; simp
      rw [e, List.length_cons]
      constructor
      · intro h
        exact List.mem_cons_of_mem _ (ih.mp (by omega))
      · intro h
        rcases List.mem_cons.mp h with h | h
        · cases h
        · have := ih.mpr h
          omega
theorem getD_set {sh : Shs} {i j : Nat} {x : Option (Int × Int)} (hj : j < sh.length) : (sh.set i x).getD j none = if i = j then x else sh.getD j none := by
  rw [getD_lt (by rw [List.length_set]; exact hj), getD_lt hj, List.getElem_set]
theorem setAll_len {v : Int × Int} : ∀ (es : List Int) (sh : Shs), (setAll v es sh).length = sh.length
  | [], _ => rfl
  | e :: es, sh => by
    show (setAll v es (sh.set e.toNat (some v))).length = _
    rw [setAll_len es, List.length_set]
theorem setAll_get {v : Int × Int} : ∀ (es : List Int) (sh : Shs) (j : Nat), j < sh.length → (∀ e ∈ es, 0 ≤ e) → (setAll v es sh).getD j none = if (j : Int) ∈ es then some v else sh.getD j none
  | [], sh, j, _, _ => by
    rw [if_neg (by simp)]
    rfl
  | e :: es, sh, j, hj, h => by
    show (setAll v es (sh.set e.toNat (some v))).getD j none = _
    rw [setAll_get es _ j (by rw [List.length_set]; exact hj) fun e he => h e (List.mem_cons_of_mem _ he), getD_set hj]
    have h0 := h e List.mem_cons_self
    by_cases c : (j : Int) ∈ es
    · rw [if_pos c, if_pos (List.mem_cons_of_mem _ c)]
    · rw [if_neg c]
      by_cases d : e.toNat = j
      · rw [if_pos d, if_pos (by rw [show (j : Int) = e by omega]; exact List.mem_cons_self)]
      · rw [if_neg d, if_neg (fun z => (List.mem_cons.mp z).elim (fun z => by omega) c)]
theorem setAll_cnt {v : Int × Int} : ∀ (es : List Int) (sh : Shs), es.Nodup → (∀ e ∈ es, 0 ≤ e ∧ e.toNat < sh.length ∧ sh.getD e.toNat none = none) → cnt (setAll v es sh) = cnt sh + es.length
  | [], sh, _, _ => rfl
  | e :: es, sh, hn, h => by
    show cnt (setAll v es (sh.set e.toNat (some v))) = _
    obtain ⟨a1, a2, a3⟩ := h e List.mem_cons_self
    have hn := List.nodup_cons.mp hn
    rw [setAll_cnt es _ hn.2 (fun x hx => by
      obtain ⟨b1, b2, b3⟩ := h x (List.mem_cons_of_mem _ hx)
      refine ⟨b1, by rw [List.length_set]; exact b2, ?_⟩
      rw [getD_set b2, if_neg (by intro z; have : e = x := by omega
                                  subst this; exact hn.1 hx)]
      exact b3), cnt_set sh _ a2 a3, List.length_cons]
    omega
theorem setAll_mem {v : Int × Int} : ∀ (es : List Int) (sh : Shs) (x : Option (Int × Int)), x ∈ setAll v es sh → x = some v ∨ x ∈ sh
  | [], _, _, h => .inr h
  | e :: es, sh, x, h => by
    rcases setAll_mem es _ x h with h | h
    · exact .inl h
    · rcases List.mem_or_eq_of_mem_set h with h | h
      · exact .inr h
      · exact .inl h
structure Sg where
  sh : Shs
  cov : List Int
  tk : List Int
abbrev zAt (zs : List St) (k : Nat) : St := zs.getD k ([], 0)
abbrev pk (zs : List St) (S : Sg) : Option Bst := pick (cvL S.cov) zs
def stp (zs : List St) (S : Sg) (q : Bst) : Sg := ⟨setAll (low q.1 (q.2.1 : Int)) (fresh (cvL S.cov) (zAt zs q.2.2)) S.sh, S.cov ++ fresh (cvL S.cov) (zAt zs q.2.2), S.tk ++ [(q.2.2 : Int)]⟩
def stepQ (zs : List St) (S : Sg) : Sg := match pk zs S with
  | none => S
  | some q => stp zs S q
theorem stepQ_n {zs : List St} {S : Sg} (h : pk zs S = none) : stepQ zs S = S := by unfold stepQ; rw [h]
theorem stepQ_s {zs : List St} {S : Sg} {q : Bst} (h : pk zs S = some q) : stepQ zs S = stp zs S q := by unfold stepQ; rw [h]
def runQ (zs : List St) : Nat → Sg → Sg
  | 0, S => S
  | n + 1, S => runQ zs n (stepQ zs S)
theorem runQ_fix {zs : List St} {S : Sg} (h : pk zs S = none) : ∀ n, runQ zs n S = S
  | 0 => rfl
  | n + 1 => by
    show runQ zs n (stepQ zs S) = S
    rw [stepQ_n h]
    exact runQ_fix h n
theorem runQ_out {zs : List St} : ∀ (n : Nat) (S : Sg), runQ zs (n + 1) S = stepQ zs (runQ zs n S)
  | 0, S => rfl
  | n + 1, S => by
    show runQ zs (n + 1) (stepQ zs S) = stepQ zs (runQ zs n (stepQ zs S))
    exact runQ_out n _
structure Inv (s : Nat) (zs : List St) (S : Sg) : Prop where
  l : S.sh.length = s
  c : S.cov.length = cnt S.sh
  v : ∀ j : Nat, j < s → (S.sh.getD j none).isSome = decide ((j : Int) ∈ S.cov)
  sm : ∀ z : Int × Int, some z ∈ S.sh → z.1.natAbs ≤ 62 ∧ z.2.natAbs ≤ 8
  t : ∀ k ∈ S.tk, 0 ≤ k ∧ k < (zs.length : Int)
  tl : S.tk.length ≤ S.cov.length
theorem Inv.le {s : Nat} {zs : List St} {S : Sg} (h : Inv s zs S) : S.cov.length ≤ s := by
  rw [h.c, ← h.l]
  exact cnt_le _
theorem fresh_pr {s : Nat} {zs : List St} {S : Sg} {z : St} (h : Inv s zs S) (hz : GS0 (s : Int) z) : (fresh (cvL S.cov) z).Nodup ∧ ∀ e ∈ fresh (cvL S.cov) z, 0 ≤ e ∧ e.toNat < S.sh.length ∧ S.sh.getD e.toNat none = none := by
  refine ⟨(hz.1.filter _).imp fun h => by omega, fun e he => ?_⟩
  obtain ⟨h1, h2⟩ := List.mem_filter.mp he
  have r := hz.2.1 e h1
  have k := h.v e.toNat (by omega)
  rw [show ((e.toNat : Nat) : Int) = e by omega] at k
  have k2 : cvL S.cov e = false := by simpa using h2
  have k3 : (S.sh.getD e.toNat none).isSome = false := k.trans k2
  refine ⟨r.1, by rw [h.l]; omega, ?_⟩
  cases hq : S.sh.getD e.toNat none with
  | none => rfl
  | some y => rw [hq] at k3; cases k3
theorem step_inv {s : Nat} {zs : List St} {S : Sg} {q : Bst} (hs : s ≤ 8) (hg : ∀ z ∈ zs, GS0 (s : Int) z) (h : Inv s zs S) (hq : pk zs S = some q) : Inv s zs (stp zs S q) ∧ S.cov.length < (stp zs S q).cov.length := by
  have b := bst_ok (Nat.le_refl _) hq
  have b8 := b.sz (by omega : (s : Int) ≤ 8) hg
  have gz : GS0 (s : Int) (zAt zs q.2.2) := by unfold zAt; rw [getD_lt b.1]; exact hg _ (List.getElem_mem _)
  obtain ⟨f1, f2⟩ := fresh_pr h gz
  have lq : q.2.1 = (fresh (cvL S.cov) (zAt zs q.2.2)).length := b.2.2.1
  have l0 := b.2.2.2
  unfold stp
  generalize fresh (cvL S.cov) (zAt zs q.2.2) = fr at f1 f2 lq
  have lw := low_le (p := q.1) (q := (q.2.1 : Int)) (by omega)
  refine ⟨⟨by rw [setAll_len]; exact h.l, ?_, fun j hj => ?_, fun z hz => ?_, fun k hk => ?_, ?_⟩, ?_⟩
  · show (S.cov ++ fr).length = cnt (setAll _ fr S.sh)
    rw [setAll_cnt fr S.sh f1 f2, List.length_append, h.c]
  · show ((setAll _ fr S.sh).getD j none).isSome = decide ((j : Int) ∈ S.cov ++ fr)
    rw [setAll_get fr S.sh j (by rw [h.l]; exact hj) fun e he => (f2 e he).1]
    by_cases c : (j : Int) ∈ fr
    · rw [if_pos c, decide_eq_true (List.mem_append.mpr (.inr c))]
      rfl
    · rw [if_neg c, h.v j hj]
      exact decide_eq_decide.mpr ⟨fun z => List.mem_append.mpr (.inl z), fun z => (List.mem_append.mp z).resolve_right c⟩
  · rcases setAll_mem fr S.sh _ hz with e | e
    · cases e
      omega
    · exact h.sm z e
  · rcases List.mem_append.mp hk with e | e
    · exact h.t k e
    · rw [List.mem_singleton.mp e]
      have := b.1
      omega
  · show (S.tk ++ [_]).length ≤ (S.cov ++ fr).length
    have := h.tl
    rw [List.length_append, List.length_append, List.length_singleton]
    omega
  · show S.cov.length < (S.cov ++ fr).length
    rw [List.length_append]
    omega
theorem stepQ_inv {s : Nat} {zs : List St} {S : Sg} (hs : s ≤ 8) (hg : ∀ z ∈ zs, GS0 (s : Int) z) (h : Inv s zs S) : Inv s zs (stepQ zs S) := by
  cases hq : pk zs S with
  | none => rw [stepQ_n hq]; exact h
  | some q => rw [stepQ_s hq]; exact (step_inv hs hg h hq).1
theorem runQ_inv {s : Nat} {zs : List St} (hs : s ≤ 8) (hg : ∀ z ∈ zs, GS0 (s : Int) z) : ∀ (n : Nat) (S : Sg), Inv s zs S → Inv s zs (runQ zs n S)
  | 0, _, h => h
  | n + 1, S, h => runQ_inv hs hg n _ (stepQ_inv hs hg h)
theorem full_none {s : Nat} {zs : List St} {S : Sg} (hg : ∀ z ∈ zs, GS0 (s : Int) z) (h : Inv s zs S) (hc : S.cov.length = s) : pk zs S = none := by
  refine bst_none (fun z hz => ?_) (Nat.le_refl _)
  unfold fresh
  refine List.filter_eq_nil_iff.mpr fun e he => ?_
  have r := (hg z hz).2.1 e he
  have k := h.v e.toNat (by omega)
  rw [show ((e.toNat : Nat) : Int) = e by omega] at k
  have nn : none ∉ S.sh := fun z => by
    have := (cnt_lt S.sh).mpr z
    have := h.c
    have := h.l
    omega
  have k2 : cvL S.cov e = true := by
    show decide (e ∈ S.cov) = true
    rw [← k]
    have hl : e.toNat < S.sh.length := by rw [h.l]; omega
    rw [getD_lt hl]
    cases hq : S.sh[e.toNat] with
    | none => exact absurd (by rw [← hq]; exact List.getElem_mem hl) nn
    | some y => rfl
  rw [k2]
  simp
theorem start_inv {s : Nat} {zs : List St} : Inv s zs ⟨List.replicate s none, [], []⟩ := by
  have c0 : ∀ n : Nat, cnt (List.replicate n none) = 0 := fun n => by
    induction n with
    | zero => rfl
    | succ n ih =>
      rw [List.replicate_succ]
      show (if (none : Option (Int × Int)).isSome = true then 1 else 0) + cnt (List.replicate n none) = 0
      rw [ih]
      simp
  refine ⟨List.length_replicate .., (c0 s).symm, fun j hj => ?_, fun z hz => ?_, fun k hk => (by cases hk), Nat.le_refl _⟩
  · rw [getD_lt (by rw [List.length_replicate]; exact hj), List.getElem_replicate]
    simp
  · have := (List.mem_replicate.mp hz).2
    cases this
def priceAt (zs : List St) (k : Int) : Int := (zAt zs k.toNat).2
def shD : Option (Int × Int) → DV
  | none => .non
  | some z => pr z
abbrev shsD (sh : Shs) : DV := .lst (sh.map shD)
def resD (zs : List St) (S : Sg) : DV := .tup [di S.tk, .int (S.tk.map (priceAt zs)).sum, shsD S.sh]
/-! the program -/
theorem ext_e {α : Type} {g : α → DV} {xs ys : List α} {i : Nat} {ρ : EnvD} {ge : GE} (h1 : lk ρ i = .ok (.lst (xs.map g))) (h2 : ge ρ = .ok (.lst (ys.map g))) (h : xs.length + ys.length ≤ 1000) : gDrop (gExt i (gPure ge)) ρ = .nx (ρ.set i (some (.lst ((xs ++ ys).map g)))) := by
  have e : gExt i (gPure ge) ρ = .ok (.non, ρ.set i (some (.lst ((xs ++ ys).map g)))) := by
    unfold gExt
    rw [h1]
    dsimp only
    rw [pure_e h2]
    dsimp only [Rs.bind]
    rw [h1]
    unfold extD
    dsimp only
    rw [List.length_map, List.length_map, if_pos (by rw [sz_eq]; omega), List.map_append]
  unfold gDrop
  rw [e]
theorem dSum_i {xs : List Int} : dSum [di xs] = .ok (.int xs.sum) := by
  unfold dSum
  dsimp only
  rw [iLst_i]
theorem late3 {i : Nat} {a b : GX} {ρ ρ1 ρ2 : EnvD} {x y z : DV} (h0 : lk ρ i = .ok x) (h1 : a ρ = .ok (y, ρ1)) (h2 : b ρ1 = .ok (z, ρ2)) (h3 : lk ρ2 i = .ok x) : xTup (xLate i (xCons a (xCons b xNil))) ρ = .ok (.tup [x, y, z], ρ2.set i none) := by
  unfold xTup xLate xCons xNil
  rw [h0]
  dsimp only
  rw [h1]
  dsimp only [Rs.bind]
  rw [h2]
  dsimp only [Rs.bind]
  rw [h3]
  dsimp only [Rs.bind]
  exact if_pos (by show (3 : Nat) ≤ sizeLine; decide)
theorem sum_e {zs : List St} {tk : List Int} {ρ : EnvD} {g1 g2 : GE} {k : Nat} (hl : tk.length ≤ 1000) (ht : ∀ x ∈ tk, 0 ≤ x ∧ x < (zs.length : Int)) (h2 : g2 ρ = .ok (di tk)) (h1 : ∀ o, g1 ((wipeD ρ [k]).set k (some (.int o))) = .ok (ssD zs)) (hk : ∀ o, lk ((wipeD ρ [k]).set k (some (.int o))) k = .ok (.int o)) : gCB dSum (aCons (gLc (gSeqI g2) (gtName k) gYes (gBin dIx (gBin dIx g1 (gVar k)) (gC (.int 1))) [k]) aNil) ρ = .ok (.int (tk.map (priceAt zs)).sum) := by
  have e : gLc (gSeqI g2) (gtName k) gYes (gBin dIx (gBin dIx g1 (gVar k)) (gC (.int 1))) [k] ρ = .ok (di (tk.map (priceAt zs))) := by
    unfold di
    rw [List.map_map]
    refine ev_lc (seq_e (f := DV.int) (xs := tk) h2) (lenG hl) (lcLoop_gen (g := DV.int) fun o ho => lc_yes (ρ1 := (wipeD ρ [k]).set k (some (.int o))) rfl rfl ?_)
    have r := ht o ho
    refine (bin_e ((bin_e (h1 o) (hk o)).trans (dIx_g (g := sD) o.toNat (by omega) (by omega))) rfl).trans ?_
    show Rs.ok (DV.int (zs[o.toNat]'(by omega)).2) = .ok (.int (priceAt zs o))
    unfold priceAt zAt
    rw [getD_lt (by omega)]
  exact (cb1 e).trans dSum_i
theorem wh_no {c : GT} {b : GS} {n : Nat} {ρ : EnvD} (h : c ρ = .ok false) : whileG c b (n + 1) ρ = .nx ρ := by
  unfold whileG
  rw [h]
theorem wh_nx {c : GT} {b : GS} {n : Nat} {ρ ρ' : EnvD} (h : c ρ = .ok true) (h2 : b ρ = .nx ρ') : whileG c b (n + 1) ρ = whileG c b n ρ' := by
  rw [whileG, h]
  dsimp only
  rw [h2]
theorem wh_rt {c : GT} {b : GS} {n : Nat} {ρ ρ' : EnvD} {d : DV} (h : c ρ = .ok true) (h2 : b ρ = .rt d ρ') : whileG c b (n + 1) ρ = .rt d ρ' := by
  rw [whileG, h]
  dsimp only
  rw [h2]
def fB : GS := (gSetI 2 (gVar 7) (gPure (gCB m_fraction (aCons (gBin dIx (gBin dIx (gVar 1) (gVar 5)) (gC (.int 1))) (aCons (gCB dLen (aCons (gVar 6) aNil)) aNil)))))
theorem fill {s : Nat} {zs : List St} {cov tk fr : List Int} {k : Int} {z : St} {v : Int × Int} (g : dIx (ssD zs) (.int k) = .ok (sD z)) (hv : m_fraction [.int z.2, .int (fr.length : Int)] = .ok (pr v)) : ∀ (es : List Int) (sh : Shs) (t7 : Option DV), (∀ e ∈ es, 0 ≤ e ∧ e.toNat < sh.length) → ∃ u7, forG (gtName 7) fB (es.map DV.int) [some (.int (s : Int)), some (ssD zs), some (shsD sh), some (di cov), some (di tk), some (.int k), some (di fr), t7] = .nx [some (.int (s : Int)), some (ssD zs), some (shsD (setAll v es sh)), some (di cov), some (di tk), some (.int k), some (di fr), u7]
  | [], sh, t7, _ => ⟨t7, rfl⟩
  | e :: es, sh, t7, h => by
    obtain ⟨h0, h1⟩ := h e List.mem_cons_self
    obtain ⟨u7, ih⟩ := fill (s := s) (cov := cov) (tk := tk) (fr := fr) g hv es (sh.set e.toNat (some v)) (some (.int e)) fun x hx => by
      have := h x (List.mem_cons_of_mem _ hx)
      rw [List.length_set]
      exact this
    refine ⟨u7, ?_⟩
    rw [List.map_cons, forG_cons (ρ1 := [some (.int (s : Int)), some (ssD zs), some (shsD sh), some (di cov), some (di tk), some (.int k), some (di fr), some (.int e)]) (ρ2 := [some (.int (s : Int)), some (ssD zs), some (shsD (sh.set e.toNat (some v))), some (di cov), some (di tk), some (.int k), some (di fr), some (.int e)]) rfl]
    · exact ih
    · exact setI_e (y := shD (some v)) ((cb2 ((bin_e ((bin_e rfl rfl).trans g) rfl).trans ix1) (len_e (g := DV.int) (xs := fr) rfl)).trans hv) rfl rfl (setD_g (g := shD) (x := some v) e.toNat (by omega) h1)
def qB : GS := (gSeq (gAsg (gPure (gCB m_next_set (aCons (gVar 1) (aCons (gVar 3) aNil)))) (gtName 5)) (gSeq (gIfS (gB (gBin dIsN (gVar 5) (gC .non))) (gRet (gPure (gC .non))) gNext) (gSeq (gAsg (gPure (gLc (gSeqI (gBin dIx (gBin dIx (gVar 1) (gVar 5)) (gC (.int 0)))) (gtName 7) (gB (gBin dNotIn (gVar 7) (gVar 3))) (gVar 7) [7])) (gtName 6)) (gSeq (gFor (gSeqI (gVar 6)) (gtName 7) (gSetI 2 (gVar 7) (gPure (gCB m_fraction (aCons (gBin dIx (gBin dIx (gVar 1) (gVar 5)) (gC (.int 1))) (aCons (gCB dLen (aCons (gVar 6) aNil)) aNil)))))) (gSeq (gDrop (gExt 3 (gPure (gVar 6)))) (gDrop (gApp 4 (gPure (gVar 5)))))))))
theorem q_none {s : Nat} {zs : List St} {S : Sg} {t5 t6 t7 : Option DV} (hs : s ≤ 8) (hl : zs.length ≤ 9) (hg : ∀ z ∈ zs, GS0 (s : Int) z) (hq : pk zs S = none) : ∃ ρ, qB [some (.int (s : Int)), some (ssD zs), some (shsD S.sh), some (di S.cov), some (di S.tk), t5, t6, t7] = .rt .non ρ := by
  have nk := next_ok (cov := S.cov) (by omega : (s : Int) ≤ 8) hl hg
  rw [show pick (cvL S.cov) zs = none from hq] at nk
  have s1 : (gAsg (gPure (gCB m_next_set (aCons (gVar 1) (aCons (gVar 3) aNil)))) (gtName 5)) [some (.int (s : Int)), some (ssD zs), some (shsD S.sh), some (di S.cov), some (di S.tk), t5, t6, t7] = .nx [some (.int (s : Int)), some (ssD zs), some (shsD S.sh), some (di S.cov), some (di S.tk), some .non, t6, t7] := set_e ((cb2 rfl rfl).trans nk)
  unfold qB
  rw [ev_seq s1]
  exact ⟨_, ev_stop (b_e (z := true) ((bin_e rfl rfl).trans rfl)) (ret_e rfl)⟩
theorem q_some {s : Nat} {zs : List St} {S : Sg} {q : Bst} {t5 t6 t7 : Option DV} (hs : s ≤ 8) (hl : zs.length ≤ 9) (hg : ∀ z ∈ zs, GS0 (s : Int) z) (hi : Inv s zs S) (hq : pk zs S = some q) : ∃ u5 u6 u7, qB [some (.int (s : Int)), some (ssD zs), some (shsD S.sh), some (di S.cov), some (di S.tk), t5, t6, t7] = .nx [some (.int (s : Int)), some (ssD zs), some (shsD (stp zs S q).sh), some (di (stp zs S q).cov), some (di (stp zs S q).tk), u5, u6, u7] := by
  have nk := next_ok (cov := S.cov) (by omega : (s : Int) ≤ 8) hl hg
  rw [show pick (cvL S.cov) zs = some q from hq] at nk
  have b := bst_ok (Nat.le_refl _) hq
  have b8 := b.sz (by omega : (s : Int) ≤ 8) hg
  have gz : GS0 (s : Int) (zAt zs q.2.2) := by unfold zAt; rw [getD_lt b.1]; exact hg _ (List.getElem_mem _)
  have g : dIx (ssD zs) (.int (q.2.2 : Int)) = .ok (sD (zAt zs q.2.2)) := by
    unfold zAt
    rw [getD_lt b.1]
    exact dIx_g (g := sD) (xs := zs) q.2.2 rfl b.1
  have lz := gz.len (by omega)
  obtain ⟨f1, f2⟩ := fresh_pr hi gz
  have cl := hi.le
  have tl := hi.tl
  have s1 : (gAsg (gPure (gCB m_next_set (aCons (gVar 1) (aCons (gVar 3) aNil)))) (gtName 5)) [some (.int (s : Int)), some (ssD zs), some (shsD S.sh), some (di S.cov), some (di S.tk), t5, t6, t7] = .nx [some (.int (s : Int)), some (ssD zs), some (shsD S.sh), some (di S.cov), some (di S.tk), some (.int (q.2.2 : Int)), t6, t7] := set_e ((cb2 rfl rfl).trans nk)
  have s2 : (gAsg (gPure (gLc (gSeqI (gBin dIx (gBin dIx (gVar 1) (gVar 5)) (gC (.int 0)))) (gtName 7) (gB (gBin dNotIn (gVar 7) (gVar 3))) (gVar 7) [7])) (gtName 6)) [some (.int (s : Int)), some (ssD zs), some (shsD S.sh), some (di S.cov), some (di S.tk), some (.int (q.2.2 : Int)), t6, t7] = .nx [some (.int (s : Int)), some (ssD zs), some (shsD S.sh), some (di S.cov), some (di S.tk), some (.int (q.2.2 : Int)), some (di (fresh (cvL S.cov) (zAt zs q.2.2))), t7] := set_e (fresh_e (z := zAt zs q.2.2) (by omega) ((bin_e ((bin_e rfl rfl).trans g) rfl).trans ix0) (fun _ => rfl) fun _ => rfl)
  have hv : m_fraction [.int (zAt zs q.2.2).2, .int ((fresh (cvL S.cov) (zAt zs q.2.2)).length : Int)] = .ok (pr (low q.1 (q.2.1 : Int))) := by
    have e2 : (fresh (cvL S.cov) (zAt zs q.2.2)).length = q.2.1 := b.2.2.1.symm
    rw [e2, ← b.2.1]
    exact frac_s b.2.2.2 (by omega)
  obtain ⟨u7, f⟩ := fill (s := s) (cov := S.cov) (tk := S.tk) (fr := fresh (cvL S.cov) (zAt zs q.2.2)) g hv (fresh (cvL S.cov) (zAt zs q.2.2)) S.sh t7 fun e he => ⟨(f2 e he).1, (f2 e he).2.1⟩
  have lf : (fresh (cvL S.cov) (zAt zs q.2.2)).length ≤ (zAt zs q.2.2).1.length := List.length_filter_le _ _
  refine ⟨some (.int (q.2.2 : Int)), some (di (fresh (cvL S.cov) (zAt zs q.2.2))), u7, ?_⟩
  unfold qB
  rw [ev_seq s1, ev_skip (b_e (z := false) ((bin_e rfl rfl).trans rfl)), ev_seq s2]
  show gSeq (gFor _ _ fB) _ _ = _
  rw [ev_seq (ev_for (seq_e (f := DV.int) (xs := fresh (cvL S.cov) (zAt zs q.2.2)) rfl) f), ev_seq (ext_e (g := DV.int) (xs := S.cov) (ys := fresh (cvL S.cov) (zAt zs q.2.2)) rfl rfl (by omega))]
  exact app_g (g := DV.int) (xs := S.tk) (x := (q.2.2 : Int)) rfl rfl (by omega)
theorem q_loop {s : Nat} {zs : List St} (hs : s ≤ 8) (hl : zs.length ≤ 9) (hg : ∀ z ∈ zs, GS0 (s : Int) z) : ∀ (n : Nat) (S : Sg) (t5 t6 t7 : Option DV), Inv s zs S → s ≤ S.cov.length + n → ((runQ zs n S).cov.length = s ∧ ∃ u5 u6 u7, whileG (gB (gBin dLt (gCB dLen (aCons (gVar 3) aNil)) (gVar 0))) qB (n + 1) [some (.int (s : Int)), some (ssD zs), some (shsD S.sh), some (di S.cov), some (di S.tk), t5, t6, t7] = .nx [some (.int (s : Int)), some (ssD zs), some (shsD (runQ zs n S).sh), some (di (runQ zs n S).cov), some (di (runQ zs n S).tk), u5, u6, u7]) ∨ ((runQ zs n S).cov.length ≠ s ∧ ∃ ρ, whileG (gB (gBin dLt (gCB dLen (aCons (gVar 3) aNil)) (gVar 0))) qB (n + 1) [some (.int (s : Int)), some (ssD zs), some (shsD S.sh), some (di S.cov), some (di S.tk), t5, t6, t7] = .rt .non ρ) := by
  intro n
  induction n with
  | zero =>
    intro S t5 t6 t7 hi hn
    have := hi.le
    have c : S.cov.length = s := by omega
    refine .inl ⟨c, t5, t6, t7, ?_⟩
    have t : (gB (gBin dLt (gCB dLen (aCons (gVar 3) aNil)) (gVar 0))) [some (.int (s : Int)), some (ssD zs), some (shsD S.sh), some (di S.cov), some (di S.tk), t5, t6, t7] = .ok (decide ((S.cov.length : Int) < (s : Int))) := b_e ((bin_e (len_e (g := DV.int) (xs := S.cov) rfl) rfl).trans dLt_i)
    rw [decide_eq_false (by omega : ¬ (S.cov.length : Int) < (s : Int))] at t
    exact wh_no t
  | succ n ih =>
    intro S t5 t6 t7 hi hn
    have t : (gB (gBin dLt (gCB dLen (aCons (gVar 3) aNil)) (gVar 0))) [some (.int (s : Int)), some (ssD zs), some (shsD S.sh), some (di S.cov), some (di S.tk), t5, t6, t7] = .ok (decide ((S.cov.length : Int) < (s : Int))) := b_e ((bin_e (len_e (g := DV.int) (xs := S.cov) rfl) rfl).trans dLt_i)
    have cl := hi.le
    by_cases c : S.cov.length = s
    · refine .inl ?_
      rw [runQ_fix (full_none hg hi c)]
      refine ⟨c, t5, t6, t7, ?_⟩
      rw [decide_eq_false (by omega : ¬ (S.cov.length : Int) < (s : Int))] at t
      exact wh_no t
    · rw [decide_eq_true (by omega : (S.cov.length : Int) < (s : Int))] at t
      cases hq : pk zs S with
      | none =>
        refine .inr ?_
        rw [runQ_fix hq]
        obtain ⟨ρ, k⟩ := q_none (t5 := t5) (t6 := t6) (t7 := t7) hs hl hg hq
        exact ⟨c, ρ, wh_rt t k⟩
      | some q =>
        obtain ⟨i2, lt⟩ := step_inv hs hg hi hq
        obtain ⟨u5, u6, u7, k⟩ := q_some (t5 := t5) (t6 := t6) (t7 := t7) hs hl hg hi hq
        have e : runQ zs (n + 1) S = runQ zs n (stp zs S q) := by
          show runQ zs n (stepQ zs S) = _
          rw [stepQ_s hq]
        have w : whileG (gB (gBin dLt (gCB dLen (aCons (gVar 3) aNil)) (gVar 0))) qB (n + 1 + 1) [some (.int (s : Int)), some (ssD zs), some (shsD S.sh), some (di S.cov), some (di S.tk), t5, t6, t7] = whileG (gB (gBin dLt (gCB dLen (aCons (gVar 3) aNil)) (gVar 0))) qB (n + 1) [some (.int (s : Int)), some (ssD zs), some (shsD (stp zs S q).sh), some (di (stp zs S q).cov), some (di (stp zs S q).tk), u5, u6, u7] := wh_nx t k
        rw [e, w]
        exact ih (stp zs S q) u5 u6 u7 i2 (by omega)
def covR (s : Nat) (zs : List St) : Sg := runQ zs s ⟨List.replicate s none, [], []⟩
def qRes (s : Nat) (zs : List St) : DV := if (covR s zs).cov.length = s then resD zs (covR s zs) else .non
theorem covR_inv {s : Nat} {zs : List St} (hs : s ≤ 8) (hg : ∀ z ∈ zs, GS0 (s : Int) z) : Inv s zs (covR s zs) := runQ_inv hs hg _ _ start_inv
theorem quick_ok {s : Nat} {zs : List St} (h1 : 1 ≤ s) (hs : s ≤ 8) (hl : zs.length ≤ 9) (hl1 : 1 ≤ zs.length) (hg : ∀ z ∈ zs, GS0 (s : Int) z) : m_quick_cover [.int (s : Int), ssD zs] = .ok (qRes s zs) := by
  have st : startD 8 [.int (s : Int), ssD zs] = [some (.int (s : Int)), some (ssD zs), none, none, none, none, none, none] := rfl
  have s0 : (gDrop (gPure (gCB m_check_sets (aCons (gVar 0) (aCons (gVar 1) aNil))))) [some (.int (s : Int)), some (ssD zs), none, none, none, none, none, none] = .nx [some (.int (s : Int)), some (ssD zs), none, none, none, none, none, none] := drop_e ((cb2 rfl rfl).trans (check_good (by omega) (by omega) hl1 hl hg))
  have s1 : (gAsg (gPure (gBin dRep (eLst (aCons (gC .non) aNil)) (gVar 0))) (gtName 2)) [some (.int (s : Int)), some (ssD zs), none, none, none, none, none, none] = .nx [some (.int (s : Int)), some (ssD zs), some (shsD (List.replicate s none)), none, none, none, none, none] := set_e ((bin_e (one_e (g := shD) (x := none) rfl) rfl).trans (rep_g rfl (by omega)))
  have s23 : (gAsg (gPure (eLst aNil)) (gtName 3)) [some (.int (s : Int)), some (ssD zs), some (shsD (List.replicate s none)), none, none, none, none, none] = .nx [some (.int (s : Int)), some (ssD zs), some (shsD (List.replicate s none)), some (di []), none, none, none, none] := rfl
  have s3 : (gAsg (gPure (eLst aNil)) (gtName 4)) [some (.int (s : Int)), some (ssD zs), some (shsD (List.replicate s none)), some (di []), none, none, none, none] = .nx [some (.int (s : Int)), some (ssD zs), some (shsD (List.replicate s none)), some (di []), some (di []), none, none, none] := rfl
  have lp := q_loop hs hl hg s ⟨List.replicate s none, [], []⟩ none none none start_inv (by show s ≤ 0 + s; omega)
  have fu : s + 1 ≤ fuelW := by unfold fuelW; omega
  have iv := covR_inv hs hg
  have tl := iv.tl
  have cl := iv.le
  unfold m_quick_cover runB b_quick_cover qRes
  rw [st, ev_seq s0, ev_seq s1, ev_seq s23, ev_seq s3]
  show finB (gSeq (gWhile _ qB) _ _) = _
  rcases lp with ⟨c, u5, u6, u7, k⟩ | ⟨c, ρ, k⟩
  · have c : (covR s zs).cov.length = s := c
    have k : whileG (gB (gBin dLt (gCB dLen (aCons (gVar 3) aNil)) (gVar 0))) qB (s + 1) [some (.int (s : Int)), some (ssD zs), some (shsD (List.replicate s none)), some (di []), some (di []), none, none, none] = .nx [some (.int (s : Int)), some (ssD zs), some (shsD (covR s zs).sh), some (di (covR s zs).cov), some (di (covR s zs).tk), u5, u6, u7] := k
    rw [if_pos c, ev_seq (gWhile_of fu k (by intro h; cases h)), ret_e (tup3 (x := di (covR s zs).tk) (z := shsD (covR s zs).sh) rfl (sum_e (zs := zs) (tk := (covR s zs).tk) (by omega) iv.t rfl (fun _ => rfl) fun _ => rfl) rfl)]
    rfl
  · have c : ¬ (covR s zs).cov.length = s := c
    have k : whileG (gB (gBin dLt (gCB dLen (aCons (gVar 3) aNil)) (gVar 0))) qB (s + 1) [some (.int (s : Int)), some (ssD zs), some (shsD (List.replicate s none)), some (di []), some (di []), none, none, none] = .rt .non ρ := k
    rw [if_neg c, ev_seqR (gWhile_of fu k (by intro h; cases h))]
    rfl
end M
end

/-! text K1 -/
section
set_option maxRecDepth 100000
set_option maxHeartbeats 4000000
namespace M
open PySem DL
def Rp (D : Int) (z : Int × Int) (N : Int) : Prop := z.1 * D = N * z.2 ∧ 0 < z.2
theorem low_rp {p q D N : Int} (h : q ≠ 0) (e : p * D = N * q) : Rp D (low p q) N := by
  have c := low_cross (p := p) h
  have l := low_pos (p := p) h
  generalize low p q = z at c l
  refine ⟨Int.eq_of_mul_eq_mul_right h ?_, l⟩
  have e1 : z.1 * D * q = z.1 * q * D := by grind
  have e2 : N * z.2 * q = N * q * z.2 := by grind
  rw [e1, e2, c, ← e]
  grind
theorem fp_rp {D M N : Int} {x y : Int × Int} (hx : Rp D x M) (hy : Rp D y N) : Rp D (fp x y) (M + N) := by
  obtain ⟨x1, x2⟩ := hx
  obtain ⟨y1, y2⟩ := hy
  refine low_rp (Int.mul_ne_zero (by omega) (by omega)) ?_
  have e : (x.1 * y.2 + y.1 * x.2) * D = x.1 * D * y.2 + y.1 * D * x.2 := by grind
  rw [e, x1, y1]
  grind
def isum (xs : List Int) : Int := xs.foldr (· + ·) 0
theorem isum_cons {x : Int} {xs : List Int} : isum (x :: xs) = x + isum xs := rfl
theorem asum_rp {α : Type} {D : Int} {f : α → Int × Int} {n : α → Int} : ∀ {as : List α} {x : Int × Int} {M : Int}, (∀ a ∈ as, Rp D (f a) (n a)) → Rp D x M → Rp D (asum x (as.map f)) (M + isum (as.map n))
  | [], x, M, _, h => by
    have e : M + isum (([] : List α).map n) = M := Int.add_zero M
    rw [e]
    exact h
  | a :: as, x, M, k, h => by
    have z := asum_rp (as := as) (fun b hb => k b (List.mem_cons_of_mem _ hb)) (fp_rp h (k a List.mem_cons_self))
    rw [List.map_cons, List.map_cons, isum_cons, ← Int.add_assoc]
    exact z
theorem asum_red : ∀ {zs : List (Int × Int)} {x : Int × Int}, (∀ z ∈ zs, 0 < z.2) → gi x.1 x.2 = 1 ∧ 0 < x.2 → gi (asum x zs).1 (asum x zs).2 = 1 ∧ 0 < (asum x zs).2
  | [], x, _, h => h
  | z :: zs, x, k, h => by
    have n0 : x.2 * z.2 ≠ 0 := Int.mul_ne_zero (by omega) (by have := k z List.mem_cons_self; omega)
    exact asum_red (zs := zs) (x := fp x z) (fun y hy => k y (List.mem_cons_of_mem _ hy)) ⟨gi_low n0, low_pos n0⟩
theorem isum_le {α : Type} {f : α → Int} {b : Nat} : ∀ {xs : List α}, (∀ x ∈ xs, (f x).natAbs ≤ b) → (isum (xs.map f)).natAbs ≤ b * xs.length
  | [], _ => by simp [isum]
  | x :: xs, h => by
    have ih := isum_le (xs := xs) fun y hy => h y (List.mem_cons_of_mem _ hy)
    have h1 := h x List.mem_cons_self
    rw [List.map_cons, isum_cons, List.length_cons, Nat.mul_succ]
    omega
theorem rp_small2 {z : Int × Int} {N : Int} {D : Nat} (hD : 0 < D) (h : Rp (D : Int) z N) (r : gi z.1 z.2 = 1) : z.1.natAbs ≤ N.natAbs ∧ z.2.natAbs ≤ D := by
  obtain ⟨h1, h2⟩ := h
  have co : Nat.Coprime z.2.natAbs z.1.natAbs := by
    have r2 : ((Nat.gcd z.1.natAbs z.2.natAbs : Nat) : Int) = 1 := r
    rw [Nat.coprime_comm]
    exact Int.ofNat.inj r2
  have e : z.1.natAbs * D = N.natAbs * z.2.natAbs := by
    have e : (z.1 * D).natAbs = (N * z.2).natAbs := by rw [h1]
    rw [Int.natAbs_mul, Int.natAbs_mul] at e
    exact e
  have dv : z.2.natAbs ∣ z.1.natAbs * D := ⟨N.natAbs, by rw [e, Nat.mul_comm]⟩
  have l2 : z.2.natAbs ≤ D := Nat.le_of_dvd hD (co.dvd_of_dvd_mul_left dv)
  refine ⟨?_, l2⟩
  have l3 : N.natAbs * z.2.natAbs ≤ N.natAbs * D := Nat.mul_le_mul_left _ l2
  exact Nat.le_of_mul_le_mul_right (by omega : z.1.natAbs * D ≤ N.natAbs * D) hD
theorem rp_lt {D M N : Int} {x y : Int × Int} (hD : 0 < D) (hx : Rp D x M) (hy : Rp D y N) : x.1 * y.2 < y.1 * x.2 ↔ M < N := by
  obtain ⟨x1, x2⟩ := hx
  obtain ⟨y1, y2⟩ := hy
  have e1 : x.1 * y.2 * D = M * (x.2 * y.2) := by
    have : x.1 * y.2 * D = x.1 * D * y.2 := by grind
    rw [this, x1]
    grind
  have e2 : y.1 * x.2 * D = N * (x.2 * y.2) := by
    have : y.1 * x.2 * D = y.1 * D * x.2 := by grind
    rw [this, y1]
    grind
  have pq : 0 < x.2 * y.2 := Int.mul_pos x2 y2
  constructor
  · intro h
    have h2 := Int.mul_lt_mul_of_pos_right h hD
    rw [e1, e2] at h2
    exact Int.lt_of_mul_lt_mul_right h2 (Int.le_of_lt pq)
  · intro h
    have h2 := Int.mul_lt_mul_of_pos_right h pq
    rw [← e1, ← e2] at h2
    exact Int.lt_of_mul_lt_mul_right h2 (Int.le_of_lt hD)
/-- a share, worth N sixtieths, in lowest terms -/
def Sh (x : Int × Int) (N : Int) : Prop := Rp 60 x N ∧ gi x.1 x.2 = 1
theorem Sh.sm {x : Int × Int} {N : Int} (h : Sh x N) : x.1.natAbs ≤ N.natAbs ∧ x.2.natAbs ≤ 60 ∧ 0 < x.2 := by
  have z := rp_small2 (D := 60) (by decide) h.1 h.2
  exact ⟨z.1, z.2, h.1.2⟩
theorem Sh.gd {x : Int × Int} {N : Int} (h : Sh x N) (hN : N.natAbs ≤ 20000) : Gd x := by
  have z := h.sm
  have e : (100000 : Nat) < 2 ^ 31 := by decide
  exact ⟨by omega, by omega, z.2.2⟩
theorem sh_int {p : Int} : Sh (p, 1) (60 * p) := ⟨⟨by show p * 60 = 60 * p * 1; omega, by show (0 : Int) < 1; decide⟩, by unfold gi; simp⟩
theorem sh_fp {x y : Int × Int} {M N : Int} (hx : Sh x M) (hy : Sh y N) : Sh (fp x y) (M + N) := ⟨fp_rp hx.1 hy.1, gi_low (Int.mul_ne_zero (by have := hx.1.2; omega) (by have := hy.1.2; omega))⟩
theorem lplus_ok {x y : Int × Int} (hx : Gd x) (hy : Gd y) : m__law_plus [pr x, pr y] = .ok (pr (fp x y)) := by
  rw [lplus_e hx.sm hy.sm]
  have n0 : x.2 * y.2 ≠ 0 := Int.mul_ne_zero (by have := hx.2.2; omega) (by have := hy.2.2; omega)
  refine lowest_ok n0 ?_
  rw [Int.natAbs_mul]
  have a : x.2.natAbs * y.2.natAbs < 2 ^ 31 * 2 ^ 31 := Nat.mul_lt_mul'' hx.2.1 hy.2.1
  exact Nat.lt_trans a (by decide)
def hN : Nat → Int
  | 0 => 0
  | n + 1 => hN n + 60 / ((n : Int) + 1)
theorem parts_rp {n : Nat} (h : n ≤ 6) : Rp 60 (asum (0, 1) (parts n)) (hN n) := by
  have k := asum_rp (D := 60) (as := List.range n) (x := (0, 1)) (M := 0) (f := fun i : Nat => ((1 : Int), (1 : Int) + (i : Int))) (n := fun i : Nat => 60 / ((1 : Int) + (i : Int))) (fun i hi => by
    have := List.mem_range.mp hi
    have c : i = 0 ∨ i = 1 ∨ i = 2 ∨ i = 3 ∨ i = 4 ∨ i = 5 := by omega
    rcases c with rfl | rfl | rfl | rfl | rfl | rfl <;> exact ⟨by decide, by decide⟩) ⟨by decide, by decide⟩
  have e : (0 : Int) + isum ((List.range n).map fun i : Nat => 60 / ((1 : Int) + (i : Int))) = hN n := by
    have c : n = 0 ∨ n = 1 ∨ n = 2 ∨ n = 3 ∨ n = 4 ∨ n = 5 ∨ n = 6 := by omega
    rcases c with rfl | rfl | rfl | rfl | rfl | rfl | rfl <;> decide
  rw [e] at k
  exact k
theorem parts_red {n : Nat} (h : n ≤ 6) : gi (asum (0, 1) (parts n)).1 (asum (0, 1) (parts n)).2 = 1 := (asum_red (fun z hz => (parts_gd (by omega) z hz).2.2) ⟨by decide, by decide⟩).1
theorem hN_step (n : Nat) : hN n ≤ hN (n + 1) := by
  show hN n ≤ hN n + 60 / ((n : Int) + 1)
  have := Int.ediv_nonneg (a := 60) (b := (n : Int) + 1) (by decide) (by omega)
  omega
theorem hN_mono {m : Nat} : ∀ n : Nat, m ≤ n → hN m ≤ hN n
  | 0, h => by rw [Nat.le_zero.mp h]; exact Int.le_refl _
  | n + 1, h => by
    by_cases c : m = n + 1
    · rw [c]; exact Int.le_refl _
    · exact Int.le_trans (hN_mono n (by omega)) (hN_step n)
theorem hN_nn (n : Nat) : 0 ≤ hN n := hN_mono (m := 0) n (Nat.zero_le _)
theorem hN_le {n : Nat} (h : n ≤ 6) : hN n ≤ 147 := Int.le_trans (hN_mono 6 h) (by decide)
/-! the test of shares -/
abbrev Prs := List (Int × Int)
def shAt (sh : Prs) (e : Int) : Int × Int := sh.getD e.toNat (0, 1)
def hasE (zs : List St) (e k : Int) : Bool := decide (e ∈ (zAt zs k.toNat).1)
def bE (zs : List St) (tk : List Int) (sh : Prs) (e : Int) : Bool := decide ((shAt sh e).1 < 0) || !(tk.any (hasE zs e))
def lhsZ (z : St) : Int × Int := low ((asum (0, 1) (parts z.1.length)).1 * z.2) ((asum (0, 1) (parts z.1.length)).2 * 1)
def rhsZ (sh : Prs) (z : St) : Int × Int := asum (0, 1) (z.1.map (shAt sh))
def overB (sh : Prs) (z : St) : Bool := decide ((lhsZ z).1 * (rhsZ sh z).2 < (rhsZ sh z).1 * (lhsZ z).2)
def costOf (zs : List St) (tk : List Int) : Int := (tk.map (priceAt zs)).sum
def inR (zs : List St) (k : Int) : Bool := decide (0 ≤ k) && decide (k < (zs.length : Int))
def tailB (s : Nat) (zs : List St) (tk : List Int) (sh : Prs) : Bool := if (intL s).any (bE zs tk sh) = true then false else if zs.any (overB sh) = true then false else decide (asum (0, 1) sh = (costOf zs tk, 1))
def dueB (s : Nat) (zs : List St) (tk : List Int) (sh : Prs) : Bool := if (!decide (sh.length = s) || (!decide tk.Nodup || !tk.all (inR zs))) = true then false else tailB s zs tk sh
theorem for_any {α : Type} {g : α → DV} {tg : GG} {b : GS} {I : EnvD → Prop} {p : α → Bool} : ∀ {xs : List α} {ρ : EnvD}, I ρ → (∀ x ∈ xs, ∀ ρ, I ρ → ∃ ρ1, tg (g x) ρ = .ok ρ1 ∧ (p x = false → ∃ ρ2, b ρ1 = .nx ρ2 ∧ I ρ2) ∧ (p x = true → ∃ ρ2, b ρ1 = .rt (.bl false) ρ2)) →
    (xs.any p = false → ∃ ρ2, forG tg b (xs.map g) ρ = .nx ρ2 ∧ I ρ2) ∧ (xs.any p = true → ∃ ρ2, forG tg b (xs.map g) ρ = .rt (.bl false) ρ2)
  | [], ρ, hi, _ => ⟨fun _ => ⟨ρ, rfl, hi⟩, fun h => by simp at h⟩
  | x :: xs, ρ, hi, h => by
    obtain ⟨ρ1, e1, h1, h2⟩ := h x List.mem_cons_self ρ hi
    rw [List.any_cons, List.map_cons]
    cases hp : p x with
    | true =>
      obtain ⟨ρ2, e2⟩ := h2 hp
      refine ⟨fun z => (by simp at z), fun _ => ⟨ρ2, forG_consR e1 e2⟩⟩
    | false =>
      obtain ⟨ρ2, e2, i2⟩ := h1 hp
      have ih := for_any (xs := xs) i2 fun y hy => h y (List.mem_cons_of_mem _ hy)
      rw [forG_cons e1 e2, Bool.false_or]
      exact ih
theorem bls_e {α : Type} {f : α → Bool} : ∀ {xs : List α}, bls (xs.map fun x => DV.bl (f x)) = some (xs.map f)
  | [] => rfl
  | x :: xs => by
    show (bls (xs.map fun x => DV.bl (f x))).map (f x :: ·) = _
    rw [bls_e]
    rfl
theorem dAll_ok {α : Type} {f : α → Bool} {xs : List α} : dAll [.lst (xs.map fun x => DV.bl (f x))] = .ok (.bl (xs.all f)) := by
  unfold dAll
  dsimp only
  rw [bls_e]
  dsimp only
  rw [List.all_map]
  rfl
theorem dAny_ok {α : Type} {f : α → Bool} {xs : List α} : dAny [.lst (xs.map fun x => DV.bl (f x))] = .ok (.bl (xs.any f)) := by
  unfold dAny
  dsimp only
  rw [bls_e]
  dsimp only
  rw [List.any_map]
  rfl
theorem times_ok {x y : Int × Int} (hx : Gd x) (hy : Gd y) : m_times [pr x, pr y] = .ok (pr (low (x.1 * y.1) (x.2 * y.2))) ∧ m__law_times [pr x, pr y] = .ok (pr (low (x.1 * y.1) (x.2 * y.2))) := by
  have n0 : x.2 * y.2 ≠ 0 := Int.mul_ne_zero (by have := hx.2.2; omega) (by have := hy.2.2; omega)
  have a : (x.2 * y.2).natAbs < 2 ^ 62 := by
    rw [Int.natAbs_mul]
    have a : x.2.natAbs * y.2.natAbs < 2 ^ 31 * 2 ^ 31 := Nat.mul_lt_mul'' hx.2.1 hy.2.1
    exact Nat.lt_of_lt_of_le a (by decide)
  rw [times_e hx.sm hy.sm, ltimes_e hx.sm hy.sm]
  have a2 : (x.2 * y.2).natAbs < 2 ^ 1999 := Nat.lt_of_lt_of_le a (Nat.pow_le_pow_right (by decide) (by decide))
  exact ⟨fraction_ok n0 (den9 a2), lowest_ok n0 a2⟩
theorem lhs_rp {z : St} (h : z.1.length ≤ 6) : Rp 60 (lhsZ z) (hN z.1.length * z.2) := by
  have k := parts_rp h
  unfold lhsZ
  refine low_rp (by have := k.2; omega) ?_
  have e : (asum (0, 1) (parts z.1.length)).1 * z.2 * 60 = (asum (0, 1) (parts z.1.length)).1 * 60 * z.2 := by grind
  rw [e, k.1]
  grind
theorem lhs_gd {z : St} (h : z.1.length ≤ 6) (hp : 0 ≤ z.2 ∧ z.2 ≤ 62) : Gd (lhsZ z) := by
  have k := parts_rp h
  have r : gi (lhsZ z).1 (lhsZ z).2 = 1 := gi_low (by have := k.2; omega)
  refine Sh.gd ⟨lhs_rp h, r⟩ ?_
  have a := hN_le h
  have a0 := hN_nn z.1.length
  have := Int.mul_le_mul a hp.2 hp.1 (by decide)
  have := Int.mul_nonneg a0 hp.1
  omega
theorem part_gd {n : Nat} (h : n ≤ 6) : Gd (asum (0, 1) (parts n)) := Sh.gd ⟨parts_rp h, parts_red h⟩ (by have := hN_le h; have := hN_nn n; omega)
theorem lpart_ok {n : Nat} (h : n ≤ 40) : m__law_part [.int (n : Int)] = .ok (pr (asum (0, 1) (parts n))) := by
  have st : startD 2 [.int (n : Int)] = [some (.int (n : Int)), none] := rfl
  have k : (gLc (gRng2 (aCons (gC (.int 1)) (aCons (gBin dAdd (gVar 0) (gC (.int 1))) aNil))) (gtName 1) gYes (eTup (aCons (gC (.int 1)) (aCons (gVar 1) aNil))) [1]) [some (.int (n : Int)), none] = .ok (dp (parts n)) := by
    unfold dp parts
    rw [List.map_map]
    exact ev_lc (rng2_e (n := n) rfl ((bin_e rfl rfl).trans dAdd_i) rfl (by omega)) (rngD_lenA (by omega)) (lcLoop_rngA fun i hi => lc_yes (ρ1 := [some (.int (n : Int)), some (.int ((1 : Int) + (i : Int)))]) rfl rfl (tup2 rfl rfl))
  unfold m__law_part runB b__law_part
  rw [st, ret_e ((cb1 k).trans (added_ok (parts_gd h) (by unfold parts; rw [List.length_map, List.length_range]; omega)).2)]
  rfl
end M
end

/-! text K2 -/
section
set_option maxRecDepth 100000
set_option maxHeartbeats 4000000
namespace M
open PySem DL
theorem sh_g {sh : Prs} {e : Int} (h0 : 0 ≤ e) (h : e.toNat < sh.length) : dIx (dp sh) (.int e) = .ok (pr (shAt sh e)) := by
  unfold shAt
  rw [dIx_g (g := pr) e.toNat (by omega) h, getD_lt h]
theorem z_g {zs : List St} {k : Int} (h0 : 0 ≤ k) (h : k < (zs.length : Int)) : dIx (ssD zs) (.int k) = .ok (sD (zAt zs k.toNat)) := by
  unfold zAt
  rw [dIx_g (g := sD) k.toNat (by omega) (by omega), getD_lt (by omega)]
theorem inR_of {zs : List St} {tk : List Int} (h : tk.all (inR zs) = true) : ∀ k ∈ tk, 0 ≤ k ∧ k < (zs.length : Int) := fun k hk => by
  have z := List.all_eq_true.mp h k hk
  unfold inR at z
  rw [Bool.and_eq_true] at z
  exact ⟨of_decide_eq_true z.1, of_decide_eq_true z.2⟩
theorem sh_gd {sh : Prs} (h : ∀ x ∈ sh, Gd x) {e : Int} (he : e.toNat < sh.length) : Gd (shAt sh e) := by
  unfold shAt
  rw [getD_lt he]
  exact h _ (List.getElem_mem he)
theorem rhs_e {sh : Prs} {z : St} (h : ∀ x ∈ sh, Gd x) (hz : GS0 (sh.length : Int) z) (hl : z.1.length ≤ 8) : m_added [dp (z.1.map (shAt sh))] = .ok (pr (rhsZ sh z)) ∧ m__law_added [dp (z.1.map (shAt sh))] = .ok (pr (rhsZ sh z)) := added_ok (fun x hx => by
  obtain ⟨e, he, rfl⟩ := List.mem_map.mp hx
  have r := hz.2.1 e he
  exact sh_gd h (by omega)) (by rw [List.length_map]; omega)
theorem asum_gd_bd {sh : Prs} {z : St} : ∀ x ∈ z.1.map (shAt sh), ∃ e ∈ z.1, x = shAt sh e := fun x hx => by
  obtain ⟨e, he, rfl⟩ := List.mem_map.mp hx
  exact ⟨e, he, rfl⟩
structure Dt (s : Nat) (zs : List St) (tk : List Int) (sh : Prs) : Prop where
  s1 : 1 ≤ s
  s6 : s ≤ 6
  l1 : 1 ≤ zs.length
  l7 : zs.length ≤ 7
  g : ∀ z ∈ zs, GS0 (s : Int) z
  tl : tk.length ≤ 100
  sl : sh.length ≤ 40
  sg : ∀ x ∈ sh, ∃ N : Int, Sh x N ∧ N.natAbs ≤ 20000
theorem Dt.gd {s : Nat} {zs : List St} {tk : List Int} {sh : Prs} (h : Dt s zs tk sh) : ∀ x ∈ sh, Gd x := fun x hx => by
  obtain ⟨N, a, b⟩ := h.sg x hx
  exact a.gd b
theorem Dt.len {s : Nat} {zs : List St} {tk : List Int} {sh : Prs} (h : Dt s zs tk sh) {z : St} (hz : z ∈ zs) : z.1.length ≤ 6 := by
  have := asc_len z.1 0 s (h.g z hz).1 (h.g z hz).2.1
  have := h.s6
  omega
/-- the worth of shares, whole -/
noncomputable def NN (sh : Prs) (e : Int) : Int := (shAt sh e).1 * 60 / (shAt sh e).2
theorem rp_val {x : Int × Int} {N : Int} (h : Rp 60 x N) : x.1 * 60 / x.2 = N := by
  rw [h.1]
  exact Int.mul_ediv_cancel _ (by have := h.2; omega)
theorem Dt.nn {s : Nat} {zs : List St} {tk : List Int} {sh : Prs} (h : Dt s zs tk sh) {e : Int} (he : e.toNat < sh.length) : Sh (shAt sh e) (NN sh e) ∧ (NN sh e).natAbs ≤ 20000 := by
  have m : shAt sh e ∈ sh := by unfold shAt; rw [getD_lt he]; exact List.getElem_mem he
  obtain ⟨N, a, b⟩ := h.sg _ m
  have v : NN sh e = N := rp_val a.1
  rw [v]
  exact ⟨a, b⟩
theorem Dt.rhs {s : Nat} {zs : List St} {tk : List Int} {sh : Prs} (h : Dt s zs tk sh) (hl : sh.length = s) {z : St} (hz : z ∈ zs) : Rp 60 (rhsZ sh z) (isum (z.1.map (NN sh))) ∧ Gd (rhsZ sh z) := by
  have gz := h.g z hz
  have lz := h.len hz
  have hh : ∀ e ∈ z.1, Sh (shAt sh e) (NN sh e) ∧ (NN sh e).natAbs ≤ 20000 := fun e he => by
    have r := gz.2.1 e he
    exact h.nn (by omega)
  have k := asum_rp (D := 60) (as := z.1) (x := (0, 1)) (M := 0) (f := shAt sh) (n := NN sh) (fun e he => (hh e he).1.1) ⟨by decide, by decide⟩
  rw [Int.zero_add] at k
  have r := (asum_red (zs := z.1.map (shAt sh)) (x := (0, 1)) (fun x hx => by
    obtain ⟨e, he, rfl⟩ := List.mem_map.mp hx
    exact (hh e he).1.1.2) ⟨by decide, by decide⟩).1
  refine ⟨k, ?_⟩
  have b := isum_le (f := NN sh) (b := 20000) (xs := z.1) fun e he => (hh e he).2
  have b2 := Nat.mul_le_mul_left 20000 lz
  have sm := Sh.sm (x := rhsZ sh z) ⟨k, r⟩
  have e31 : (1000000 : Nat) < 2 ^ 31 := by decide
  exact ⟨by omega, by omega, sm.2.2⟩
section
variable {s : Nat} {zs : List St} {tk : List Int} {sh : Prs} {t4 t5 t6 t7 t8 : Option DV}
theorem cost_e {ρ : EnvD} {g1 : GE} {k : Nat} {i : Nat} (hl : tk.length ≤ 1000) (ht : ∀ x ∈ tk, 0 ≤ x ∧ x < (zs.length : Int)) (h2 : lk ρ i = .ok (di tk)) (h1 : ∀ o, g1 ((wipeD ρ [k]).set k (some (.int o))) = .ok (ssD zs)) (hk : ∀ o, lk ((wipeD ρ [k]).set k (some (.int o))) k = .ok (.int o)) : gCB dSum (aCons (gLc (gSeqI (gVar i)) (gtName k) gYes (gBin dIx (gBin dIx g1 (gVar k)) (gC (.int 1))) [k]) aNil) ρ = .ok (.int (costOf zs tk)) := sum_e (g2 := gVar i) hl ht h2 h1 hk
theorem ck_cond (h : Dt s zs tk sh) : (gOr (gB (gBin dNe (gCB dLen (aCons (gVar 3) aNil)) (gVar 0))) (gOr (gB (gBin dNe (gLenS (gVar 2)) (gCB dLen (aCons (gVar 2) aNil)))) (gNot (gB (gCB dAll (aCons (gLc (gSeqI (gVar 2)) (gtName 4) gYes (gChain dLe dLt (gC (.int 0)) (gVar 4) (gCB dLen (aCons (gVar 1) aNil))) [4]) aNil)))))) [some (.int (s : Int)), some (ssD zs), some (di tk), some (dp sh), none, none, none, none, none] = .ok (!decide (sh.length = s) || (!decide tk.Nodup || !tk.all (inR zs))) := by
  have tl := h.tl
  have k : (gLc (gSeqI (gVar 2)) (gtName 4) gYes (gChain dLe dLt (gC (.int 0)) (gVar 4) (gCB dLen (aCons (gVar 1) aNil))) [4]) [some (.int (s : Int)), some (ssD zs), some (di tk), some (dp sh), none, none, none, none, none] = .ok (.lst (tk.map fun k => DV.bl (inR zs k))) := ev_lc (seq_e (f := DV.int) (xs := tk) rfl) (lenG (by omega)) (lcLoop_gen (g := DV.int) fun x _ => lc_yes (ρ1 := [some (.int (s : Int)), some (ssD zs), some (di tk), some (dp sh), some (.int x), none, none, none, none]) rfl rfl (chain_lt rfl rfl (len_e (g := sD) (xs := zs) rfl)))
  have n1 : (gB (gBin dNe (gCB dLen (aCons (gVar 3) aNil)) (gVar 0))) [some (.int (s : Int)), some (ssD zs), some (di tk), some (dp sh), none, none, none, none, none] = .ok (!decide (sh.length = s)) := by
    rw [ne_e (len_e (g := pr) (xs := sh) rfl) rfl, decide_eq_decide.mpr (by omega : ((sh.length : Int) = (s : Int)) ↔ sh.length = s)]
  have l1 : gLenS (gVar 2) [some (.int (s : Int)), some (ssD zs), some (di tk), some (dp sh), none, none, none, none, none] = .ok (.int (setLen tk : Nat)) := by
    show dLenS [di tk] = _
    unfold dLenS
    dsimp only
    rw [iLst_i]
    dsimp only
    rw [if_pos (by omega)]
  have n2 : (gB (gBin dNe (gLenS (gVar 2)) (gCB dLen (aCons (gVar 2) aNil)))) [some (.int (s : Int)), some (ssD zs), some (di tk), some (dp sh), none, none, none, none, none] = .ok (!decide tk.Nodup) := by
    rw [ne_e l1 (len_e (g := DV.int) (xs := tk) rfl), decide_eq_decide.mpr (by rw [← setLen_iff]; omega : ((setLen tk : Nat) : Int) = (tk.length : Int) ↔ tk.Nodup)]
  exact or_e n1 (or_e n2 (not_e (b_e ((cb1 k).trans dAll_ok))))
theorem ck_elt (h : Dt s zs tk sh) (hl : sh.length = s) (hr : ∀ k ∈ tk, 0 ≤ k ∧ k < (zs.length : Int)) {o : Int} (ho : 0 ≤ o ∧ o < (s : Int)) : (gOr (gB (gBin dLt (gBin dIx (gBin dIx (gVar 3) (gVar 5)) (gC (.int 0))) (gC (.int 0)))) (gNot (gB (gCB dAny (aCons (gLc (gSeqI (gVar 2)) (gtName 4) gYes (gBin dIn (gVar 5) (gBin dIx (gBin dIx (gVar 1) (gVar 4)) (gC (.int 0)))) [4]) aNil))))) [some (.int (s : Int)), some (ssD zs), some (di tk), some (dp sh), t4, some (.int o), t6, t7, t8] = .ok (bE zs tk sh o) := by
  have tl := h.tl
  have k : (gLc (gSeqI (gVar 2)) (gtName 4) gYes (gBin dIn (gVar 5) (gBin dIx (gBin dIx (gVar 1) (gVar 4)) (gC (.int 0)))) [4]) [some (.int (s : Int)), some (ssD zs), some (di tk), some (dp sh), t4, some (.int o), t6, t7, t8] = .ok (.lst (tk.map fun k => DV.bl (hasE zs o k))) := ev_lc (seq_e (f := DV.int) (xs := tk) rfl) (lenG (by omega)) (lcLoop_gen (g := DV.int) fun x hx => lc_yes (ρ1 := [some (.int (s : Int)), some (ssD zs), some (di tk), some (dp sh), some (.int x), some (.int o), t6, t7, t8]) rfl rfl ((bin_e rfl ((bin_e ((bin_e rfl rfl).trans (z_g (hr x hx).1 (hr x hx).2)) rfl).trans ix0)).trans in_i))
  exact or_e (b_e ((bin_e ((bin_e ((bin_e rfl rfl).trans (sh_g ho.1 (by omega))) rfl).trans ix0) rfl).trans dLt_i)) (not_e (b_e ((cb1 k).trans dAny_ok)))
theorem lc_sh {ρ : EnvD} {z : St} {k : Nat} {g1 g3 : GE} (hl : sh.length = s) (hz : GS0 (s : Int) z) (lz : z.1.length ≤ 8) (h1 : g1 ρ = .ok (di z.1)) (h3 : ∀ o, g3 ((wipeD ρ [k]).set k (some (.int o))) = .ok (dp sh)) (hk : ∀ o, lk ((wipeD ρ [k]).set k (some (.int o))) k = .ok (.int o)) : gLc (gSeqI g1) (gtName k) gYes (gBin dIx g3 (gVar k)) [k] ρ = .ok (dp (z.1.map (shAt sh))) := by
  unfold dp
  rw [List.map_map]
  exact ev_lc (seq_e (f := DV.int) (xs := z.1) h1) (lenG (by omega)) (lcLoop_gen (g := DV.int) fun o ho => lc_yes (ρ1 := (wipeD ρ [k]).set k (some (.int o))) rfl rfl ((bin_e (h3 o) (hk o)).trans (sh_g (hz.2.1 o ho).1 (by have := hz.2.1 o ho; omega))))
theorem ck_set (h : Dt s zs tk sh) (hl : sh.length = s) {z : St} (hz : z ∈ zs) : (gB (gCB m_is_less (aCons (gCB m_times (aCons (gCB m_harmonic (aCons (gCB dLen (aCons (gVar 6) aNil)) aNil)) (aCons (eTup (aCons (gVar 7) (aCons (gC (.int 1)) aNil))) aNil))) (aCons (gVar 8) aNil)))) [some (.int (s : Int)), some (ssD zs), some (di tk), some (dp sh), t4, t5, some (di z.1), some (.int z.2), some (pr (rhsZ sh z))] = .ok (overB sh z) ∧ (gAsg (gPure (gCB m_added (aCons (gLc (gSeqI (gVar 6)) (gtName 5) gYes (gBin dIx (gVar 3) (gVar 5)) [5]) aNil))) (gtName 8)) [some (.int (s : Int)), some (ssD zs), some (di tk), some (dp sh), t4, t5, some (di z.1), some (.int z.2), t8] = .nx [some (.int (s : Int)), some (ssD zs), some (di tk), some (dp sh), t4, t5, some (di z.1), some (.int z.2), some (pr (rhsZ sh z))] := by
  have gz := h.g z hz
  have lz := h.len hz
  have r := h.rhs hl hz
  have g1 : Gd (z.2, 1) := by
    have e31 : (100 : Nat) < 2 ^ 31 := by decide
    have := gz.2.2
    exact ⟨by show z.2.natAbs < _; omega, by show (1 : Int).natAbs < _; omega, by show (0 : Int) < 1; decide⟩
  have pd := lc_sh (sh := sh) (ρ := [some (.int (s : Int)), some (ssD zs), some (di tk), some (dp sh), t4, t5, some (di z.1), some (.int z.2), t8]) (k := 5) (g1 := gVar 6) (g3 := gVar 3) hl gz (by omega) rfl (fun _ => rfl) fun _ => rfl
  have re := (rhs_e (sh := sh) h.gd (by rw [hl]; exact gz) (by omega)).1
  constructor
  · exact b_e ((cb2 ((cb2 ((cb1 (len_e (g := DV.int) (xs := z.1) rfl)).trans (harmonic_ok (by omega))) (tup2 rfl rfl)).trans (times_ok (part_gd lz) g1).1) rfl).trans (less_e (lhs_gd lz gz.2.2).sm r.2.sm))
  · exact set_e ((cb1 pd).trans re)
theorem check_ok (h : Dt s zs tk sh) : m_check_shares [.int (s : Int), ssD zs, di tk, dp sh] = .ok (.bl (dueB s zs tk sh)) := by
  have tl := h.tl
  have st : startD 9 [.int (s : Int), ssD zs, di tk, dp sh] = [some (.int (s : Int)), some (ssD zs), some (di tk), some (dp sh), none, none, none, none, none] := rfl
  have s0 : (gDrop (gPure (gCB m_check_sets (aCons (gVar 0) (aCons (gVar 1) aNil))))) [some (.int (s : Int)), some (ssD zs), some (di tk), some (dp sh), none, none, none, none, none] = .nx [some (.int (s : Int)), some (ssD zs), some (di tk), some (dp sh), none, none, none, none, none] := drop_e ((cb2 rfl rfl).trans (check_good (by have := h.s1; omega) (by have := h.s6; omega) h.l1 (by have := h.l7; omega) h.g))
  have s1 := ck_cond h
  unfold m_check_shares runB b_check_shares dueB
  rw [st, ev_seq s0]
  cases hc : (!decide (sh.length = s) || (!decide tk.Nodup || !tk.all (inR zs))) with
  | true =>
    rw [hc] at s1
    rw [ev_stop s1 (ret_e rfl), if_pos rfl]
    rfl
  | false =>
    rw [hc] at s1
    rw [ev_skip s1, if_neg Bool.false_ne_true]
    have a1 := (Bool.or_eq_false_iff.mp hc).1
    have a3 := (Bool.or_eq_false_iff.mp (Bool.or_eq_false_iff.mp hc).2).2
    have hl : sh.length = s := by simpa using a1
    have hr := inR_of (by simpa using a3 : tk.all (inR zs) = true)
    have f := for_any (g := DV.int) (tg := gtName 5) (b := (gIfS (gOr (gB (gBin dLt (gBin dIx (gBin dIx (gVar 3) (gVar 5)) (gC (.int 0))) (gC (.int 0)))) (gNot (gB (gCB dAny (aCons (gLc (gSeqI (gVar 2)) (gtName 4) gYes (gBin dIn (gVar 5) (gBin dIx (gBin dIx (gVar 1) (gVar 4)) (gC (.int 0)))) [4]) aNil))))) (gRet (gPure (gC (.bl false)))) gNext)) (I := fun ρ => ∃ t4 t5 : Option DV, ρ = [some (.int (s : Int)), some (ssD zs), some (di tk), some (dp sh), t4, t5, none, none, none]) (p := bE zs tk sh) (xs := intL s) (ρ := [some (.int (s : Int)), some (ssD zs), some (di tk), some (dp sh), none, none, none, none, none]) ⟨_, _, rfl⟩ (fun o ho ρ hρ => by
      obtain ⟨t4, t5, rfl⟩ := hρ
      have c := ck_elt (t4 := t4) (t6 := none) (t7 := none) (t8 := none) h hl hr (mem_ints.mp ho)
      refine ⟨_, rfl, fun hp => ⟨_, (ev_ifS (c.trans (congrArg _ hp))).trans rfl, _, _, rfl⟩, fun hp => ⟨_, (ev_ifS (c.trans (congrArg _ hp))).trans ((if_pos rfl).trans (ret_e rfl))⟩⟩)
    have it : (gRng1 (aCons (gVar 0) aNil)) [some (.int (s : Int)), some (ssD zs), some (di tk), some (dp sh), none, none, none, none, none] = .ok ((intL s).map DV.int) := rng_ints (i := (s : Int)) rfl rfl (by have := h.s6; omega)
    unfold tailB
    cases h1 : (intL s).any (bE zs tk sh) with
    | true =>
      obtain ⟨ρ2, f2⟩ := f.2 h1
      rw [ev_seqR (ev_forR it f2), if_pos rfl]
      rfl
    | false =>
      obtain ⟨ρ2, f2, t4, t5, e2⟩ := f.1 h1
      rw [ev_seq (ev_for it f2), e2, if_neg Bool.false_ne_true]
      have f := for_any (g := sD) (tg := gtTup [6, 7]) (b := (gSeq (gAsg (gPure (gCB m_added (aCons (gLc (gSeqI (gVar 6)) (gtName 5) gYes (gBin dIx (gVar 3) (gVar 5)) [5]) aNil))) (gtName 8)) (gIfS (gB (gCB m_is_less (aCons (gCB m_times (aCons (gCB m_harmonic (aCons (gCB dLen (aCons (gVar 6) aNil)) aNil)) (aCons (eTup (aCons (gVar 7) (aCons (gC (.int 1)) aNil))) aNil))) (aCons (gVar 8) aNil)))) (gRet (gPure (gC (.bl false)))) gNext))) (I := fun ρ => ∃ t6 t7 t8 : Option DV, ρ = [some (.int (s : Int)), some (ssD zs), some (di tk), some (dp sh), t4, t5, t6, t7, t8]) (p := overB sh) (xs := zs) (ρ := [some (.int (s : Int)), some (ssD zs), some (di tk), some (dp sh), t4, t5, none, none, none]) ⟨_, _, _, rfl⟩ (fun z hz ρ hρ => by
        obtain ⟨t6, t7, t8, rfl⟩ := hρ
        have c := ck_set (t4 := t4) (t5 := t5) (t8 := t8) h hl hz
        refine ⟨_, rfl, fun hp => ⟨_, (ev_seq c.2).trans ((ev_ifS (c.1.trans (congrArg _ hp))).trans rfl), _, _, _, rfl⟩, fun hp => ⟨_, (ev_seq c.2).trans ((ev_ifS (c.1.trans (congrArg _ hp))).trans ((if_pos rfl).trans (ret_e rfl)))⟩⟩)
      have it : (gSeqI (gVar 1)) [some (.int (s : Int)), some (ssD zs), some (di tk), some (dp sh), t4, t5, none, none, none] = .ok (zs.map sD) := seq_e (f := sD) (xs := zs) rfl
      cases h2 : zs.any (overB sh) with
      | true =>
        obtain ⟨ρ3, f3⟩ := f.2 h2
        rw [ev_seqR (ev_forR it f3), if_pos rfl]
        rfl
      | false =>
        obtain ⟨ρ3, f3, t6, t7, t8, e3⟩ := f.1 h2
        rw [ev_seq (ev_for it f3), e3, if_neg Bool.false_ne_true]
        have sm := cost_e (zs := zs) (tk := tk) (ρ := [some (.int (s : Int)), some (ssD zs), some (di tk), some (dp sh), t4, t5, t6, t7, t8]) (g1 := gVar 1) (k := 4) (i := 2) (by omega) hr rfl (fun _ => rfl) fun _ => rfl
        rw [ret_e (d := .bl (decide (asum (0, 1) sh = (costOf zs tk, 1)))) ((bin_e ((cb1 rfl).trans (added_ok h.gd h.sl).1) (tup2 sm rfl)).trans (dEq_pr (x := asum (0, 1) sh) (y := (costOf zs tk, 1))))]
        rfl
theorem cnt_any {α : Type} {p : α → Bool} {xs : List α} : decide ((0 : Int) < ((xs.filter p).length : Int)) = xs.any p := by
  rw [Bool.eq_iff_iff, decide_eq_true_eq, List.any_eq_true]
  constructor
  · intro h
    have h2 : 0 < (xs.filter p).length := by omega
    obtain ⟨x, hx⟩ := List.exists_mem_of_length_pos h2
    exact ⟨x, (List.mem_filter.mp hx).1, (List.mem_filter.mp hx).2⟩
  · rintro ⟨x, h1, h2⟩
    have := List.length_pos_of_mem (List.mem_filter.mpr ⟨h1, h2⟩)
    omega
theorem cnt_none {α : Type} {p : α → Bool} {xs : List α} : decide (((xs.filter p).length : Int) = 0) = !xs.any p := by
  rw [← cnt_any]
  by_cases h : (xs.filter p).length = 0
  · rw [h]; rfl
  · rw [decide_eq_false (by omega), decide_eq_true (by omega)]
    rfl
theorem any_not {α : Type} {p : α → Bool} : ∀ {xs : List α}, xs.any (fun x => !p x) = !xs.all p
  | [] => rfl
  | x :: xs => by
    rw [List.any_cons, List.all_cons, any_not (xs := xs), Bool.not_and]
def dupJ (tk : List Int) (j : Int) : Bool := decide (tk.getD j.toNat 0 ∈ tk.take j.toNat)
theorem dup_iff {tk : List Int} : (intL tk.length).any (dupJ tk) = !decide tk.Nodup := by
  rw [Bool.eq_iff_iff, List.any_eq_true]
  constructor
  · rintro ⟨j, hj, hd⟩
    have r := mem_ints.mp hj
    have hd := of_decide_eq_true hd
    have lt : j.toNat < tk.length := by omega
    rw [getD_lt lt] at hd
    obtain ⟨i, hi, e⟩ := List.mem_iff_getElem.mp hd
    rw [List.length_take] at hi
    rw [List.getElem_take] at e
    have n : ¬ tk.Nodup := fun nd => absurd e (List.pairwise_iff_getElem.mp nd i j.toNat (by omega) lt (by omega))
    rw [decide_eq_false n]
    rfl
  · intro h
    have n : ¬ tk.Nodup := by simpa using h
    refine Classical.byContradiction fun z => n (List.pairwise_iff_getElem.mpr fun i j hi hj hij e => z ⟨(j : Int), mem_ints.mpr (by omega), ?_⟩)
    refine decide_eq_true ?_
    rw [show ((j : Int)).toNat = j by omega, getD_lt hj, ← e]
    exact List.mem_iff_getElem.mpr ⟨i, by rw [List.length_take]; omega, List.getElem_take⟩
theorem due_c1 (h : Dt s zs tk sh) : (gOr (gB (gBin dNe (gCB dLen (aCons (gVar 3) aNil)) (gVar 0))) (gB (gBin dGt (gCB dLen (aCons (gLc (gSeqI (gVar 2)) (gtName 4) (gNot (gB (gChain dLe dLt (gC (.int 0)) (gVar 4) (gCB dLen (aCons (gVar 1) aNil))))) (gVar 4) [4]) aNil)) (gC (.int 0))))) [some (.int (s : Int)), some (ssD zs), some (di tk), some (dp sh), none, none, none, none, none] = .ok (!decide (sh.length = s) || !tk.all (inR zs)) := by
  have tl := h.tl
  have k : (gLc (gSeqI (gVar 2)) (gtName 4) (gNot (gB (gChain dLe dLt (gC (.int 0)) (gVar 4) (gCB dLen (aCons (gVar 1) aNil))))) (gVar 4) [4]) [some (.int (s : Int)), some (ssD zs), some (di tk), some (dp sh), none, none, none, none, none] = .ok (.lst ((tk.filter fun k => !inR zs k).map DV.int)) := ev_lc (seq_e (f := DV.int) (xs := tk) rfl) (lenG (by omega)) (lcLoop_filt (f := DV.int) fun x _ => lc_b (ρ1 := [some (.int (s : Int)), some (ssD zs), some (di tk), some (dp sh), some (.int x), none, none, none, none]) rfl (not_e (b_e (chain_lt rfl rfl (len_e (g := sD) (xs := zs) rfl)))) rfl)
  have n1 : (gB (gBin dNe (gCB dLen (aCons (gVar 3) aNil)) (gVar 0))) [some (.int (s : Int)), some (ssD zs), some (di tk), some (dp sh), none, none, none, none, none] = .ok (!decide (sh.length = s)) := by
    rw [ne_e (len_e (g := pr) (xs := sh) rfl) rfl, decide_eq_decide.mpr (by omega : ((sh.length : Int) = (s : Int)) ↔ sh.length = s)]
  refine or_e n1 (b_e ((bin_e (lenD_e k) rfl).trans (dGt_i.trans ?_)))
  rw [cnt_any, any_not]
theorem due_c2 (h : Dt s zs tk sh) : (gB (gBin dGt (gCB dLen (aCons (gLc (gRng1 (aCons (gCB dLen (aCons (gVar 2) aNil)) aNil)) (gtName 5) (gB (gBin dIn (gBin dIx (gVar 2) (gVar 5)) (gSl (gVar 2) gNoPart (gPart (gVar 5))))) (gVar 5) [5]) aNil)) (gC (.int 0)))) [some (.int (s : Int)), some (ssD zs), some (di tk), some (dp sh), none, none, none, none, none] = .ok (!decide tk.Nodup) := by
  have tl := h.tl
  have k : (gLc (gRng1 (aCons (gCB dLen (aCons (gVar 2) aNil)) aNil)) (gtName 5) (gB (gBin dIn (gBin dIx (gVar 2) (gVar 5)) (gSl (gVar 2) gNoPart (gPart (gVar 5))))) (gVar 5) [5]) [some (.int (s : Int)), some (ssD zs), some (di tk), some (dp sh), none, none, none, none, none] = .ok (.lst (((intL tk.length).filter (dupJ tk)).map DV.int)) := ev_lc (rng_ints (n := tk.length) (len_e (g := DV.int) (xs := tk) rfl) rfl (by omega)) (lenG (by rw [ints_len]; omega)) (lcLoop_filt (f := DV.int) fun j hj => lc_b (ρ1 := [some (.int (s : Int)), some (ssD zs), some (di tk), some (dp sh), none, some (.int j), none, none, none]) rfl (b_e ((bin_e ((bin_e rfl rfl).trans (ixz (mem_ints.mp hj).1 (mem_ints.mp hj).2)) (slT_e (g := DV.int) (xs := tk) rfl rfl (mem_ints.mp hj).1)).trans in_i)) rfl)
  refine b_e ((bin_e (lenD_e k) rfl).trans (dGt_i.trans ?_))
  rw [cnt_any, dup_iff]
theorem due_elt (h : Dt s zs tk sh) (hl : sh.length = s) (hr : ∀ k ∈ tk, 0 ≤ k ∧ k < (zs.length : Int)) {o : Int} (ho : 0 ≤ o ∧ o < (s : Int)) : (gOr (gB (gBin dLt (gBin dIx (gBin dIx (gVar 3) (gVar 6)) (gC (.int 0))) (gC (.int 0)))) (gB (gBin dEq (gCB dLen (aCons (gLc (gSeqI (gVar 2)) (gtName 4) (gB (gBin dIn (gVar 6) (gBin dIx (gBin dIx (gVar 1) (gVar 4)) (gC (.int 0))))) (gVar 4) [4]) aNil)) (gC (.int 0))))) [some (.int (s : Int)), some (ssD zs), some (di tk), some (dp sh), t4, t5, some (.int o), t7, t8] = .ok (bE zs tk sh o) := by
  have tl := h.tl
  have k : (gLc (gSeqI (gVar 2)) (gtName 4) (gB (gBin dIn (gVar 6) (gBin dIx (gBin dIx (gVar 1) (gVar 4)) (gC (.int 0))))) (gVar 4) [4]) [some (.int (s : Int)), some (ssD zs), some (di tk), some (dp sh), t4, t5, some (.int o), t7, t8] = .ok (.lst ((tk.filter (hasE zs o)).map DV.int)) := ev_lc (seq_e (f := DV.int) (xs := tk) rfl) (lenG (by omega)) (lcLoop_filt (f := DV.int) fun x hx => lc_b (ρ1 := [some (.int (s : Int)), some (ssD zs), some (di tk), some (dp sh), some (.int x), t5, some (.int o), t7, t8]) rfl (b_e ((bin_e rfl ((bin_e ((bin_e rfl rfl).trans (z_g (hr x hx).1 (hr x hx).2)) rfl).trans ix0)).trans in_i)) rfl)
  refine or_e (b_e ((bin_e ((bin_e ((bin_e rfl rfl).trans (sh_g ho.1 (by omega))) rfl).trans ix0) rfl).trans dLt_i)) (b_e ((bin_e (lenD_e k) rfl).trans (dEq_i.trans ?_)))
  rw [cnt_none]
theorem due_set (h : Dt s zs tk sh) (hl : sh.length = s) {z : St} (hz : z ∈ zs) : (gB (gCB m__law_less (aCons (gCB m__law_times (aCons (gCB m__law_part (aCons (gCB dLen (aCons (gVar 7) aNil)) aNil)) (aCons (eTup (aCons (gVar 8) (aCons (gC (.int 1)) aNil))) aNil))) (aCons (gCB m__law_added (aCons (gLc (gSeqI (gVar 7)) (gtName 6) gYes (gBin dIx (gVar 3) (gVar 6)) [6]) aNil)) aNil)))) [some (.int (s : Int)), some (ssD zs), some (di tk), some (dp sh), t4, t5, t6, some (di z.1), some (.int z.2)] = .ok (overB sh z) := by
  have gz := h.g z hz
  have lz := h.len hz
  have r := h.rhs hl hz
  have g1 : Gd (z.2, 1) := by
    have e31 : (100 : Nat) < 2 ^ 31 := by decide
    have := gz.2.2
    exact ⟨by show z.2.natAbs < _; omega, by show (1 : Int).natAbs < _; omega, by show (0 : Int) < 1; decide⟩
  have pd := lc_sh (sh := sh) (ρ := [some (.int (s : Int)), some (ssD zs), some (di tk), some (dp sh), t4, t5, t6, some (di z.1), some (.int z.2)]) (k := 6) (g1 := gVar 7) (g3 := gVar 3) hl gz (by omega) rfl (fun _ => rfl) fun _ => rfl
  have re := (rhs_e (sh := sh) h.gd (by rw [hl]; exact gz) (by omega)).2
  exact b_e ((cb2 ((cb2 ((cb1 (len_e (g := DV.int) (xs := z.1) rfl)).trans (lpart_ok (by omega))) (tup2 rfl rfl)).trans (times_ok (part_gd lz) g1).2) ((cb1 pd).trans re)).trans (lless_e (lhs_gd lz gz.2.2).sm r.2.sm))
theorem due_ok (h : Dt s zs tk sh) : m__law_due [.int (s : Int), ssD zs, di tk, dp sh] = .ok (.bl (dueB s zs tk sh)) := by
  have tl := h.tl
  have st : startD 9 [.int (s : Int), ssD zs, di tk, dp sh] = [some (.int (s : Int)), some (ssD zs), some (di tk), some (dp sh), none, none, none, none, none] := rfl
  have s1 := due_c1 h
  have s2 := due_c2 h
  unfold m__law_due runB b__law_due dueB
  rw [st]
  cases hc : (!decide (sh.length = s) || !tk.all (inR zs)) with
  | true =>
    rw [hc] at s1
    have e : (!decide (sh.length = s) || (!decide tk.Nodup || !tk.all (inR zs))) = true := by
      rcases (Bool.or_eq_true _ _).mp hc with z | z <;> rw [z] <;> simp
    rw [ev_stop s1 (ret_e rfl), e, if_pos rfl]
    rfl
  | false =>
    rw [hc] at s1
    have a1 := (Bool.or_eq_false_iff.mp hc).1
    have a3 := (Bool.or_eq_false_iff.mp hc).2
    rw [ev_skip s1, a1, a3, Bool.false_or, Bool.or_false]
    cases hn : !decide tk.Nodup with
    | true =>
      rw [hn] at s2
      rw [ev_stop s2 (ret_e rfl), if_pos rfl]
      rfl
    | false =>
      rw [hn] at s2
      rw [ev_skip s2, if_neg Bool.false_ne_true]
      have hl : sh.length = s := by simpa using a1
      have hr := inR_of (by simpa using a3 : tk.all (inR zs) = true)
      have f := for_any (g := DV.int) (tg := gtName 6) (b := (gIfS (gOr (gB (gBin dLt (gBin dIx (gBin dIx (gVar 3) (gVar 6)) (gC (.int 0))) (gC (.int 0)))) (gB (gBin dEq (gCB dLen (aCons (gLc (gSeqI (gVar 2)) (gtName 4) (gB (gBin dIn (gVar 6) (gBin dIx (gBin dIx (gVar 1) (gVar 4)) (gC (.int 0))))) (gVar 4) [4]) aNil)) (gC (.int 0))))) (gRet (gPure (gC (.bl false)))) gNext)) (I := fun ρ => ∃ t6 : Option DV, ρ = [some (.int (s : Int)), some (ssD zs), some (di tk), some (dp sh), none, none, t6, none, none]) (p := bE zs tk sh) (xs := intL s) (ρ := [some (.int (s : Int)), some (ssD zs), some (di tk), some (dp sh), none, none, none, none, none]) ⟨_, rfl⟩ (fun o ho ρ hρ => by
        obtain ⟨t6, rfl⟩ := hρ
        have c := due_elt (t4 := none) (t5 := none) (t7 := none) (t8 := none) h hl hr (mem_ints.mp ho)
        refine ⟨_, rfl, fun hp => ⟨_, (ev_ifS (c.trans (congrArg _ hp))).trans rfl, _, rfl⟩, fun hp => ⟨_, (ev_ifS (c.trans (congrArg _ hp))).trans ((if_pos rfl).trans (ret_e rfl))⟩⟩)
      have it : (gRng1 (aCons (gVar 0) aNil)) [some (.int (s : Int)), some (ssD zs), some (di tk), some (dp sh), none, none, none, none, none] = .ok ((intL s).map DV.int) := rng_ints (i := (s : Int)) rfl rfl (by have := h.s6; omega)
      unfold tailB
      cases h1 : (intL s).any (bE zs tk sh) with
      | true =>
        obtain ⟨ρ2, f2⟩ := f.2 h1
        rw [ev_seqR (ev_forR it f2), if_pos rfl]
        rfl
      | false =>
        obtain ⟨ρ2, f2, t6, e2⟩ := f.1 h1
        rw [ev_seq (ev_for it f2), e2, if_neg Bool.false_ne_true]
        have f := for_any (g := sD) (tg := gtTup [7, 8]) (b := (gIfS (gB (gCB m__law_less (aCons (gCB m__law_times (aCons (gCB m__law_part (aCons (gCB dLen (aCons (gVar 7) aNil)) aNil)) (aCons (eTup (aCons (gVar 8) (aCons (gC (.int 1)) aNil))) aNil))) (aCons (gCB m__law_added (aCons (gLc (gSeqI (gVar 7)) (gtName 6) gYes (gBin dIx (gVar 3) (gVar 6)) [6]) aNil)) aNil)))) (gRet (gPure (gC (.bl false)))) gNext)) (I := fun ρ => ∃ t7 t8 : Option DV, ρ = [some (.int (s : Int)), some (ssD zs), some (di tk), some (dp sh), none, none, t6, t7, t8]) (p := overB sh) (xs := zs) (ρ := [some (.int (s : Int)), some (ssD zs), some (di tk), some (dp sh), none, none, t6, none, none]) ⟨_, _, rfl⟩ (fun z hz ρ hρ => by
          obtain ⟨t7, t8, rfl⟩ := hρ
          have c := due_set (t4 := none) (t5 := none) (t6 := t6) h hl hz
          refine ⟨_, rfl, fun hp => ⟨_, (ev_ifS (c.trans (congrArg _ hp))).trans rfl, _, _, rfl⟩, fun hp => ⟨_, (ev_ifS (c.trans (congrArg _ hp))).trans ((if_pos rfl).trans (ret_e rfl))⟩⟩)
        have it : (gSeqI (gVar 1)) [some (.int (s : Int)), some (ssD zs), some (di tk), some (dp sh), none, none, t6, none, none] = .ok (zs.map sD) := seq_e (f := sD) (xs := zs) rfl
        cases h2 : zs.any (overB sh) with
        | true =>
          obtain ⟨ρ3, f3⟩ := f.2 h2
          rw [ev_seqR (ev_forR it f3), if_pos rfl]
          rfl
        | false =>
          obtain ⟨ρ3, f3, t7, t8, e3⟩ := f.1 h2
          rw [ev_seq (ev_for it f3), e3, if_neg Bool.false_ne_true]
          have sm := cost_e (zs := zs) (tk := tk) (ρ := [some (.int (s : Int)), some (ssD zs), some (di tk), some (dp sh), none, none, t6, t7, t8]) (g1 := gVar 1) (k := 4) (i := 2) (by omega) hr rfl (fun _ => rfl) fun _ => rfl
          rw [ret_e (d := .bl (decide (asum (0, 1) sh = (costOf zs tk, 1)))) ((bin_e ((cb1 rfl).trans (added_ok h.gd h.sl).2) (tup2 sm rfl)).trans (dEq_pr (x := asum (0, 1) sh) (y := (costOf zs tk, 1))))]
          rfl
end
end M
end

/-! text K3 -/
section
set_option maxRecDepth 100000
set_option maxHeartbeats 4000000
namespace M
open PySem DL
def bitB (n k : Int) : Bool := decide (Builtin.bitAnd (n / 2 ^ k.toNat) 1 = 1)
def chs (zs : List St) (n : Int) : List St := ((intL zs.length).filter (bitB n)).map fun k => zAt zs k.toNat
def prc (ch : List St) : Int := (ch.map fun z => z.2).sum
def hasZ (ch : List St) (e : Int) : Bool := ch.any fun z => decide (e ∈ z.1)
def covB (s : Nat) (ch : List St) : Bool := (intL s).all (hasZ ch)
def ltO (p : Int) : Option Int → Bool
  | none => true
  | some q => decide (p < q)
def stepL (s : Nat) (zs : List St) (n : Int) (b : Option Int) : Option Int := if ltO (prc (chs zs n)) b = true then (if covB s (chs zs n) = true then some (prc (chs zs n)) else b) else b
def bestN (s : Nat) (zs : List St) : Nat → Option Int
  | 0 => none
  | i + 1 => stepL s zs ((0 : Int) + (i : Int)) (bestN s zs i)
theorem chs_mem {zs : List St} {n : Int} : ∀ z ∈ chs zs n, z ∈ zs := fun z hz => by
  obtain ⟨k, hk, rfl⟩ := List.mem_map.mp hz
  have r := mem_ints.mp (List.mem_filter.mp hk).1
  unfold zAt
  rw [getD_lt (by omega)]
  exact List.getElem_mem _
theorem chs_len {zs : List St} {n : Int} : (chs zs n).length ≤ zs.length := by
  unfold chs
  rw [List.length_map]
  exact Nat.le_trans (List.length_filter_le _ _) (by rw [ints_len]; exact Nat.le_refl _)
theorem best_some {s : Nat} {zs : List St} : ∀ {i : Nat} {p : Int}, bestN s zs i = some p → ∃ ch : List St, (∀ z ∈ ch, z ∈ zs) ∧ ch.length ≤ zs.length ∧ covB s ch = true ∧ p = prc ch
  | 0, p, h => by cases h
  | i + 1, p, h => by
    unfold bestN stepL at h
    split at h
    · split at h
      · rename_i c
        cases h
        exact ⟨_, chs_mem, chs_len, c, rfl⟩
      · exact best_some h
    · exact best_some h
theorem best_non {s : Nat} {zs : List St} : ∀ {i : Nat}, bestN s zs i = none → ∀ n : Nat, n < i → covB s (chs zs ((0 : Int) + (n : Int))) = false
  | 0, _, n, hn => by omega
  | i + 1, h, n, hn => by
    unfold bestN stepL at h
    have ih : bestN s zs i = none ∧ covB s (chs zs ((0 : Int) + (i : Int))) = false := by
      cases hb : bestN s zs i with
      | none =>
        rw [hb] at h
        rw [if_pos (show ltO (prc (chs zs ((0 : Int) + (i : Int)))) none = true from rfl)] at h
        cases hc : covB s (chs zs ((0 : Int) + (i : Int))) with
        | true => rw [hc, if_pos rfl] at h; cases h
        | false => exact ⟨rfl, rfl⟩
      | some q =>
        rw [hb] at h
        split at h
        · split at h <;> cases h
        · cases h
    by_cases c : n = i
    · rw [c]; exact ih.2
    · exact best_non ih.1 n (by omega)
theorem bits_all {L : Nat} (h1 : 1 ≤ L) (h7 : L ≤ 7) : ∀ k ∈ intL L, bitB ((0 : Int) + ((2 ^ L - 1 : Nat) : Int)) k = true := by
  have c : L = 1 ∨ L = 2 ∨ L = 3 ∨ L = 4 ∨ L = 5 ∨ L = 6 ∨ L = 7 := by omega
  rcases c with rfl | rfl | rfl | rfl | rfl | rfl | rfl <;> decide +kernel
theorem chs_all {zs : List St} (h1 : 1 ≤ zs.length) (h7 : zs.length ≤ 7) : chs zs ((0 : Int) + ((2 ^ zs.length - 1 : Nat) : Int)) = zs := by
  unfold chs
  rw [List.filter_eq_self.mpr (bits_all h1 h7)]
  refine List.ext_getElem (by rw [List.length_map, ints_len]) fun i a b => ?_
  rw [List.getElem_map]
  have e : ((intL zs.length)[i]'(by rw [ints_len]; exact b)).toNat = i := by
    unfold intL
    rw [List.getElem_map, List.getElem_range]
    omega
  unfold zAt
  rw [e, getD_lt b]
theorem shl_e {L : Nat} (h : L ≤ 7) : dShl (.int 1) (.int (L : Int)) = .ok (.int ((2 ^ L : Nat) : Int)) := by
  have c : L = 0 ∨ L = 1 ∨ L = 2 ∨ L = 3 ∨ L = 4 ∨ L = 5 ∨ L = 6 ∨ L = 7 := by omega
  rcases c with rfl | rfl | rfl | rfl | rfl | rfl | rfl | rfl <;> rfl
def oI : Option Int → DV
  | none => .non
  | some p => .int p
def lB : GS := (gSeq (gAsg (gPure (gLc (gRng1 (aCons (gCB dLen (aCons (gVar 1) aNil)) aNil)) (gtName 5) (gB (gBin dEq (gBin dAnd (gBin dShr (gVar 3) (gVar 5)) (gC (.int 1))) (gC (.int 1)))) (gBin dIx (gVar 1) (gVar 5)) [5])) (gtName 4)) (gSeq (gAsg (gPure (gCB dSum (aCons (gLc (gSeqI (gVar 4)) (gtName 7) gYes (gBin dIx (gVar 7) (gC (.int 1))) [7]) aNil))) (gtName 6)) (gIfS (gOr (gB (gBin dIsN (gVar 2) (gC .non))) (gB (gBin dLt (gVar 6) (gVar 2)))) (gIfS (gB (gBin dEq (gCB dLen (aCons (gLc (gRng1 (aCons (gVar 0) aNil)) (gtName 7) (gB (gBin dEq (gCB dLen (aCons (gLc (gSeqI (gVar 4)) (gtTup [8, 9]) (gB (gBin dIn (gVar 7) (gVar 8))) (gC (.int 1)) [8, 9]) aNil)) (gC (.int 0)))) (gC (.int 1)) [7]) aNil)) (gC (.int 0)))) (gAsg (gPure (gVar 6)) (gtName 2)) gNext) gNext)))
theorem l_step {s i : Nat} {zs : List St} {b : Option Int} {t4 t5 t6 t7 t8 t9 : Option DV} (hs : s ≤ 6) (hl : zs.length ≤ 7) : ∃ u4 u5 u6 u7 u8 u9, lB [some (.int (s : Int)), some (ssD zs), some (oI b), some (.int ((0 : Int) + (i : Int))), t4, t5, t6, t7, t8, t9] = .nx [some (.int (s : Int)), some (ssD zs), some (oI (stepL s zs ((0 : Int) + (i : Int)) b)), some (.int ((0 : Int) + (i : Int))), u4, u5, u6, u7, u8, u9] := by
  have k4 : (gLc (gRng1 (aCons (gCB dLen (aCons (gVar 1) aNil)) aNil)) (gtName 5) (gB (gBin dEq (gBin dAnd (gBin dShr (gVar 3) (gVar 5)) (gC (.int 1))) (gC (.int 1)))) (gBin dIx (gVar 1) (gVar 5)) [5]) [some (.int (s : Int)), some (ssD zs), some (oI b), some (.int ((0 : Int) + (i : Int))), t4, t5, t6, t7, t8, t9] = .ok (ssD (chs zs ((0 : Int) + (i : Int)))) := by
    unfold ssD chs
    rw [List.map_map]
    refine ev_lc (rng_ints (n := zs.length) (len_e (g := sD) (xs := zs) rfl) rfl (by omega)) (lenG (by rw [ints_len]; omega)) (lcLoop_filt (f := fun k => sD (zAt zs k.toNat)) fun k hk => lc_b (ρ1 := [some (.int (s : Int)), some (ssD zs), some (oI b), some (.int ((0 : Int) + (i : Int))), t4, some (.int k), t6, t7, t8, t9]) rfl (b_e (z := bitB ((0 : Int) + (i : Int)) k) ?_) ((bin_e rfl rfl).trans (z_g (mem_ints.mp hk).1 (mem_ints.mp hk).2)))
    have a : dShr (.int ((0 : Int) + (i : Int))) (.int k) = .ok (.int (((0 : Int) + (i : Int)) / 2 ^ k.toNat)) := by
      unfold dShr dII
      dsimp only
      rw [if_pos (decide_eq_true (mem_ints.mp hk).1)]
    exact (bin_e ((bin_e ((bin_e rfl rfl).trans a) rfl).trans rfl) rfl).trans dEq_i
  have cl := chs_len (zs := zs) (n := (0 : Int) + (i : Int))
  unfold lB stepL
  rw [ev_seq (set_e k4)]
  generalize chs zs ((0 : Int) + (i : Int)) = ch at cl
  have k6 : (gLc (gSeqI (gVar 4)) (gtName 7) gYes (gBin dIx (gVar 7) (gC (.int 1))) [7]) [some (.int (s : Int)), some (ssD zs), some (oI b), some (.int ((0 : Int) + (i : Int))), some (ssD ch), t5, t6, t7, t8, t9] = .ok (di (ch.map fun z => z.2)) := by
    unfold di
    rw [List.map_map]
    exact ev_lc (seq_e (f := sD) (xs := ch) rfl) (lenG (by omega)) (lcLoop_gen (g := sD) fun z _ => lc_yes (ρ1 := [some (.int (s : Int)), some (ssD zs), some (oI b), some (.int ((0 : Int) + (i : Int))), some (ssD ch), t5, t6, some (sD z), t8, t9]) rfl rfl ((bin_e rfl rfl).trans ix1))
  have s2 : (gAsg (gPure (gCB dSum (aCons (gLc (gSeqI (gVar 4)) (gtName 7) gYes (gBin dIx (gVar 7) (gC (.int 1))) [7]) aNil))) (gtName 6)) [some (.int (s : Int)), some (ssD zs), some (oI b), some (.int ((0 : Int) + (i : Int))), some (ssD ch), t5, t6, t7, t8, t9] = .nx [some (.int (s : Int)), some (ssD zs), some (oI b), some (.int ((0 : Int) + (i : Int))), some (ssD ch), t5, some (.int (prc ch)), t7, t8, t9] := set_e ((cb1 k6).trans dSum_i)
  show ∃ u4 u5 u6 u7 u8 u9, gSeq (gAsg (gPure (gCB dSum (aCons (gLc (gSeqI (gVar 4)) (gtName 7) gYes (gBin dIx (gVar 7) (gC (.int 1))) [7]) aNil))) (gtName 6)) _ [some (.int (s : Int)), some (ssD zs), some (oI b), some (.int ((0 : Int) + (i : Int))), some (ssD ch), t5, t6, t7, t8, t9] = _
  rw [ev_seq s2]
  have tc : (gOr (gB (gBin dIsN (gVar 2) (gC .non))) (gB (gBin dLt (gVar 6) (gVar 2)))) [some (.int (s : Int)), some (ssD zs), some (oI b), some (.int ((0 : Int) + (i : Int))), some (ssD ch), t5, some (.int (prc ch)), t7, t8, t9] = .ok (ltO (prc ch) b) := by
    cases b with
    | none => exact or_t (b_e (z := true) ((bin_e rfl rfl).trans rfl))
    | some q => exact or_f (b_e (z := false) ((bin_e rfl rfl).trans rfl)) (b_e ((bin_e rfl rfl).trans dLt_i))
  rw [ev_ifS tc]
  cases ltO (prc ch) b with
  | false => exact ⟨_, _, _, _, _, _, rfl⟩
  | true =>
    rw [if_pos rfl, if_pos rfl]
    have ku : (gLc (gRng1 (aCons (gVar 0) aNil)) (gtName 7) (gB (gBin dEq (gCB dLen (aCons (gLc (gSeqI (gVar 4)) (gtTup [8, 9]) (gB (gBin dIn (gVar 7) (gVar 8))) (gC (.int 1)) [8, 9]) aNil)) (gC (.int 0)))) (gC (.int 1)) [7]) [some (.int (s : Int)), some (ssD zs), some (oI b), some (.int ((0 : Int) + (i : Int))), some (ssD ch), t5, some (.int (prc ch)), t7, t8, t9] = .ok (.lst (((intL s).filter fun o => !hasZ ch o).map fun _ => DV.int 1)) := ev_lc (rng_ints (i := (s : Int)) rfl rfl (by omega)) (lenG (by rw [ints_len]; omega)) (lcLoop_filt (f := fun _ => DV.int 1) fun o _ => by
      have ki : (gLc (gSeqI (gVar 4)) (gtTup [8, 9]) (gB (gBin dIn (gVar 7) (gVar 8))) (gC (.int 1)) [8, 9]) [some (.int (s : Int)), some (ssD zs), some (oI b), some (.int ((0 : Int) + (i : Int))), some (ssD ch), t5, some (.int (prc ch)), some (.int o), t8, t9] = .ok (.lst ((ch.filter fun z => decide (o ∈ z.1)).map fun _ => DV.int 1)) := ev_lc (seq_e (f := sD) (xs := ch) rfl) (lenG (by omega)) (lcLoop_filt fun z _ => lc_b (ρ1 := [some (.int (s : Int)), some (ssD zs), some (oI b), some (.int ((0 : Int) + (i : Int))), some (ssD ch), t5, some (.int (prc ch)), some (.int o), some (di z.1), some (.int z.2)]) rfl (b_e ((bin_e rfl rfl).trans in_i)) rfl)
      refine lc_b (ρ1 := [some (.int (s : Int)), some (ssD zs), some (oI b), some (.int ((0 : Int) + (i : Int))), some (ssD ch), t5, some (.int (prc ch)), some (.int o), t8, t9]) rfl (b_e (z := !hasZ ch o) ((bin_e (lenD_e (f := fun _ => DV.int 1) ki) rfl).trans (dEq_i.trans ?_))) rfl
      rw [cnt_none]
      rfl)
    have tc2 : (gB (gBin dEq (gCB dLen (aCons (gLc (gRng1 (aCons (gVar 0) aNil)) (gtName 7) (gB (gBin dEq (gCB dLen (aCons (gLc (gSeqI (gVar 4)) (gtTup [8, 9]) (gB (gBin dIn (gVar 7) (gVar 8))) (gC (.int 1)) [8, 9]) aNil)) (gC (.int 0)))) (gC (.int 1)) [7]) aNil)) (gC (.int 0)))) [some (.int (s : Int)), some (ssD zs), some (oI b), some (.int ((0 : Int) + (i : Int))), some (ssD ch), t5, some (.int (prc ch)), t7, t8, t9] = .ok (covB s ch) := by
      refine b_e ((bin_e (lenD_e (f := fun _ => DV.int 1) ku) rfl).trans (dEq_i.trans ?_))
      rw [cnt_none, any_not, Bool.not_not]
      rfl
    rw [ev_ifS tc2]
    cases covB s ch with
    | false => exact ⟨_, _, _, _, _, _, rfl⟩
    | true => exact ⟨_, _, _, _, _, _, (if_pos rfl).trans (set_e (d := oI (some (prc ch))) rfl)⟩
def leastV (s : Nat) (zs : List St) : Option Int := bestN s zs (2 ^ zs.length)
theorem least_ok {s : Nat} {zs : List St} (hs : s ≤ 6) (hl : zs.length ≤ 7) : m__law_least [.int (s : Int), ssD zs] = .ok (oI (leastV s zs)) := by
  have st : startD 10 [.int (s : Int), ssD zs] = [some (.int (s : Int)), some (ssD zs), none, none, none, none, none, none, none, none] := rfl
  have s0 : (gAsg (gPure (gC .non)) (gtName 2)) [some (.int (s : Int)), some (ssD zs), none, none, none, none, none, none, none, none] = .nx [some (.int (s : Int)), some (ssD zs), some (oI (bestN s zs 0)), none, none, none, none, none, none, none] := rfl
  have p7 : 2 ^ zs.length ≤ 2 ^ 7 := Nat.pow_le_pow_right (by decide) hl
  obtain ⟨ρ', f1, t3, t4, t5, t6, t7, t8, t9, e1⟩ := forG_rngB (tg := gtName 3) (b := lB) (2 ^ zs.length) (fun i ρ => ∃ t3 t4 t5 t6 t7 t8 t9 : Option DV, ρ = [some (.int (s : Int)), some (ssD zs), some (oI (bestN s zs i)), t3, t4, t5, t6, t7, t8, t9]) (fun i ρ hi h => by
    obtain ⟨t3, t4, t5, t6, t7, t8, t9, rfl⟩ := h
    obtain ⟨u4, u5, u6, u7, u8, u9, k⟩ := l_step (s := s) (i := i) (zs := zs) (b := bestN s zs i) (t4 := t4) (t5 := t5) (t6 := t6) (t7 := t7) (t8 := t8) (t9 := t9) hs hl
    exact ⟨_, _, rfl, k, _, _, _, _, _, _, _, rfl⟩) (2 ^ zs.length) 0 [some (.int (s : Int)), some (ssD zs), some (oI (bestN s zs 0)), none, none, none, none, none, none, none] (by omega) ⟨_, _, _, _, _, _, _, rfl⟩
  rw [Nat.zero_add] at e1
  have s1 : gFor (gRng1 (aCons (gBin dShl (gC (.int 1)) (gCB dLen (aCons (gVar 1) aNil))) aNil)) (gtName 3) lB [some (.int (s : Int)), some (ssD zs), some (oI (bestN s zs 0)), none, none, none, none, none, none, none] = .nx ρ' := ev_for (rng1_e (n := 2 ^ zs.length) ((bin_e rfl (len_e (g := sD) (xs := zs) rfl)).trans (shl_e hl)) rfl (Nat.le_trans p7 (by decide))) (by rw [rngD_eq]; exact f1)
  unfold m__law_least runB b__law_least
  rw [st, ev_seq s0]
  show finB (gSeq (gFor _ _ lB) _ _) = _
  rw [ev_seq s1, e1]
  rfl
theorem least_none {s : Nat} {zs : List St} (h1 : 1 ≤ zs.length) (hl : zs.length ≤ 7) (h : leastV s zs = none) : covB s zs = false := by
  have p := Nat.two_pow_pos zs.length
  have k := best_non h (2 ^ zs.length - 1) (by omega)
  rw [chs_all h1 hl] at k
  exact k
end M
end

/-! text K4 -/
section
set_option maxRecDepth 100000
set_option maxHeartbeats 4000000
namespace M
open PySem DL
def ShB (sh : Prs) (b : Nat) : Prop := ∀ x ∈ sh, ∃ N : Int, Sh x N ∧ N.natAbs ≤ b
theorem ShB.mono {sh : Prs} {b c : Nat} (h : ShB sh b) (hb : b ≤ c) : ShB sh c := fun x hx => by
  obtain ⟨N, h1, h2⟩ := h x hx
  exact ⟨N, h1, Nat.le_trans h2 hb⟩
theorem sh_neg {x : Int × Int} {N : Int} (h : Sh x N) : Sh (-x.1, x.2) (-N) := by
  obtain ⟨⟨h1, h2⟩, h3⟩ := h
  refine ⟨⟨?_, h2⟩, ?_⟩
  · show -x.1 * 60 = -N * x.2
    rw [Int.neg_mul, Int.neg_mul, h1]
  · have e : gi (-x.1) x.2 = gi x.1 x.2 := by unfold gi; rw [Int.natAbs_neg]
    show gi (-x.1) x.2 = 1
    rw [e, h3]
theorem shb_at {sh : Prs} {b : Nat} (h : ShB sh b) {e : Int} (he : e.toNat < sh.length) : ∃ N : Int, Sh (shAt sh e) N ∧ N.natAbs ≤ b := by
  unfold shAt
  rw [getD_lt he]
  exact h _ (List.getElem_mem he)
theorem shb_set {sh : Prs} {b c : Nat} (h : ShB sh b) {i : Nat} {x : Int × Int} {N : Int} (hx : Sh x N) (hN : N.natAbs ≤ c) (hb : b ≤ c) : ShB (sh.set i x) c := fun y hy => by
  rcases List.mem_or_eq_of_mem_set hy with z | z
  · exact (h.mono hb) y z
  · rw [z]; exact ⟨N, hx, hN⟩
def TkB (tk : List Int) : Prop := ∀ k ∈ tk, -1 ≤ k ∧ k ≤ 7
theorem part4 {y : Int} : ∃ (P : Int × Int) (N : Int), dIx (.lst [pr (1, 1), pr (1, 2), pr (-1, 3), pr (0, 1)]) (.int (y % 4)) = .ok (pr P) ∧ Sh P N ∧ N.natAbs ≤ 60 := by
  have c : y % 4 = 0 ∨ y % 4 = 1 ∨ y % 4 = 2 ∨ y % 4 = 3 := by omega
  rcases c with c | c | c | c <;> rw [c]
  · exact ⟨(1, 1), 60, rfl, ⟨⟨by decide, by decide⟩, by decide⟩, by decide⟩
  · exact ⟨(1, 2), 30, rfl, ⟨⟨by decide, by decide⟩, by decide⟩, by decide⟩
  · exact ⟨(-1, 3), -20, rfl, ⟨⟨by decide, by decide⟩, by decide⟩, by decide⟩
  · exact ⟨(0, 1), 0, rfl, ⟨⟨by decide, by decide⟩, by decide⟩, by decide⟩
section
variable {xs tk : List Int} {a w k o1 o2 : Int} {s : Nat} {zs : List St} {sh : Prs} {P : Int × Int}
theorem way_e {z : Int} : gB (gBin dEq (gVar 6) (gC (.int z))) [some (di xs), some (.int a), some (.int (s : Int)), some (ssD zs), some (di tk), some (dp sh), some (.int w), some (.int k), some (.int o1), some (.int o2), some (pr P)] = .ok (decide (w = z)) := b_e ((bin_e rfl rfl).trans dEq_i)
theorem plus_set {i : Nat} {e : Int} {g : GE} {Q : Int × Int} {b c : Nat} {N : Int} (hb : ShB sh b) (hc : b + c ≤ 20000) (hQ : Sh Q N) (hN : N.natAbs ≤ c) (he : 0 ≤ e ∧ e < (sh.length : Int)) (h1 : lk [some (di xs), some (.int a), some (.int (s : Int)), some (ssD zs), some (di tk), some (dp sh), some (.int w), some (.int k), some (.int o1), some (.int o2), some (pr P)] i = .ok (.int e)) (h2 : g [some (di xs), some (.int a), some (.int (s : Int)), some (ssD zs), some (di tk), some (dp sh), some (.int w), some (.int k), some (.int o1), some (.int o2), some (pr P)] = .ok (pr Q)) : ∃ sh' : Prs, gSetI 5 (gVar i) (gPure (gCB m__law_plus (aCons (gBin dIx (gVar 5) (gVar i)) (aCons g aNil)))) [some (di xs), some (.int a), some (.int (s : Int)), some (ssD zs), some (di tk), some (dp sh), some (.int w), some (.int k), some (.int o1), some (.int o2), some (pr P)] = .nx [some (di xs), some (.int a), some (.int (s : Int)), some (ssD zs), some (di tk), some (dp sh'), some (.int w), some (.int k), some (.int o1), some (.int o2), some (pr P)] ∧ sh'.length = sh.length ∧ ShB sh' (b + c) := by
  obtain ⟨M, m1, m2⟩ := shb_at hb (e := e) (by omega)
  have f := sh_fp m1 hQ
  refine ⟨sh.set e.toNat (fp (shAt sh e) Q), setI_e (y := pr (fp (shAt sh e) Q)) ((cb2 ((bin_e rfl h1).trans (sh_g he.1 (by omega))) h2).trans (lplus_ok (m1.gd (by omega)) (hQ.gd (by omega)))) rfl h1 (setD_g (g := pr) (x := fp (shAt sh e) Q) e.toNat (by omega) (by omega)), by rw [List.length_set], shb_set hb f (by omega) (by omega)⟩
def CR (s : Nat) (tk tk' : List Int) (sh' : Prs) (b : Nat) : Prop := tk'.length ≤ tk.length + 1 ∧ TkB tk' ∧ sh'.length ≤ s + 1 ∧ ShB sh' (b + 3720)
def chB : GS := (gIfS (gB (gBin dEq (gVar 6) (gC (.int 0)))) (gDrop (gApp 4 (gPure (gVar 7)))) (gIfS (gB (gBin dEq (gVar 6) (gC (.int 1)))) (gAsg (gPure (gSl (gVar 4) (gPart (gC (.int 1))) gNoPart)) (gtName 4)) (gIfS (gB (gBin dEq (gVar 6) (gC (.int 2)))) (gDrop (gApp 4 (gPure (gBin dIx (eLst (aCons (gUn dNeg (gC (.int 1))) (aCons (gCB dLen (aCons (gVar 3) aNil)) aNil))) (gBin dMod (gCB dInt (aCons (gBin dIx (gVar 0) (gBin dAdd (gVar 1) (gC (.int 4)))) aNil)) (gC (.int 2))))))) (gIfS (gB (gBin dEq (gVar 6) (gC (.int 3)))) (gSetI 5 (gVar 8) (gPure (gCB m__law_plus (aCons (gBin dIx (gVar 5) (gVar 8)) (aCons (gVar 10) aNil))))) (gIfS (gB (gBin dEq (gVar 6) (gC (.int 4)))) (gSeq (gSetI 5 (gVar 8) (gPure (gCB m__law_plus (aCons (gBin dIx (gVar 5) (gVar 8)) (aCons (gVar 10) aNil))))) (gSetI 5 (gVar 9) (gPure (gCB m__law_plus (aCons (gBin dIx (gVar 5) (gVar 9)) (aCons (eTup (aCons (gUn dNeg (gBin dIx (gVar 10) (gC (.int 0)))) (aCons (gBin dIx (gVar 10) (gC (.int 1))) aNil))) aNil)))))) (gIfS (gB (gBin dEq (gVar 6) (gC (.int 5)))) (gAsg (gPure (gBin dIx (eLst (aCons (gBin dAdd (gVar 5) (eLst (aCons (eTup (aCons (gC (.int 0)) (aCons (gC (.int 1)) aNil))) aNil))) (aCons (gSl (gVar 5) (gPart (gC (.int 1))) gNoPart) aNil))) (gBin dMod (gCB dInt (aCons (gBin dIx (gVar 0) (gBin dAdd (gVar 1) (gC (.int 4)))) aNil)) (gC (.int 2))))) (gtName 5)) (gIfS (gAnd (gB (gBin dEq (gVar 6) (gC (.int 6)))) (gNot (gB (gBin dIn (gVar 7) (gVar 4))))) (gSeq (gDrop (gApp 4 (gPure (gVar 7)))) (gSetI 5 (gVar 8) (gPure (gCB m__law_plus (aCons (gBin dIx (gVar 5) (gVar 8)) (aCons (eTup (aCons (gBin dIx (gBin dIx (gVar 3) (gVar 7)) (gC (.int 1))) (aCons (gC (.int 1)) aNil))) aNil)))))) (gAsg (gPure (gRev (gVar 4))) (gtName 4)))))))))
theorem ch_ok {b : Nat} {N : Int} (hx : xs.length = 170) (ha : 0 ≤ a ∧ a + 4 < 170) (hs : s ≤ 6) (hl : zs.length ≤ 7) (hg : ∀ z ∈ zs, GS0 (s : Int) z) (ht : tk.length ≤ 90) (hk : TkB tk) (sl : sh.length = s) (hb : ShB sh b) (b1 : b ≤ 16000) (hP : Sh P N) (hN : N.natAbs ≤ 60) (k0 : 0 ≤ k ∧ k < (zs.length : Int)) (q1 : 0 ≤ o1 ∧ o1 < (s : Int)) (q2 : 0 ≤ o2 ∧ o2 < (s : Int)) : ∃ (tk' : List Int) (sh' : Prs), chB [some (di xs), some (.int a), some (.int (s : Int)), some (ssD zs), some (di tk), some (dp sh), some (.int w), some (.int k), some (.int o1), some (.int o2), some (pr P)] = .nx [some (di xs), some (.int a), some (.int (s : Int)), some (ssD zs), some (di tk'), some (dp sh'), some (.int w), some (.int k), some (.int o1), some (.int o2), some (pr P)] ∧ CR s tk tk' sh' b := by
  have kb : -1 ≤ k ∧ k ≤ 7 := by omega
  have ap : ∀ j : Int, -1 ≤ j ∧ j ≤ 7 → TkB (tk ++ [j]) := fun j hj x hx => by
    rcases List.mem_append.mp hx with z | z
    · exact hk x z
    · rw [List.mem_singleton.mp z]; exact hj
  have ix4 : dIx (di xs) (.int (a + 4)) = .ok (.int (xs.getD (a + 4).toNat 0)) := ixz (by omega) (by omega)
  have y2 : ∀ (t : List Int) (u : Prs), gBin dMod (gCB dInt (aCons (gBin dIx (gVar 0) (gBin dAdd (gVar 1) (gC (.int 4)))) aNil)) (gC (.int 2)) [some (di xs), some (.int a), some (.int (s : Int)), some (ssD zs), some (di t), some (dp u), some (.int w), some (.int k), some (.int o1), some (.int o2), some (pr P)] = .ok (.int (xs.getD (a + 4).toNat 0 % 2)) := fun t u => (bin_e ((cb1 ((bin_e rfl ((bin_e rfl rfl).trans dAdd_i)).trans ix4)).trans dInt_i) rfl).trans (dMod_i (by decide))
  have yc : xs.getD (a + 4).toNat 0 % 2 = 0 ∨ xs.getD (a + 4).toNat 0 % 2 = 1 := by omega
  generalize xs.getD (a + 4).toNat 0 % 2 = y at y2 yc
  unfold chB
  rw [ev_ifS way_e]
  by_cases w0 : w = 0
  · rw [decide_eq_true w0, if_pos rfl]
    exact ⟨tk ++ [k], sh, app_g (g := DV.int) (xs := tk) (x := k) rfl rfl (by omega), by rw [List.length_append, List.length_singleton]; exact Nat.le_refl _, ap k kb, by omega, hb.mono (by omega)⟩
  rw [decide_eq_false w0, if_neg Bool.false_ne_true, ev_ifS way_e]
  by_cases w1 : w = 1
  · rw [decide_eq_true w1, if_pos rfl]
    have e1 : gSl (gVar 4) (gPart (gC (.int 1))) gNoPart [some (di xs), some (.int a), some (.int (s : Int)), some (ssD zs), some (di tk), some (dp sh), some (.int w), some (.int k), some (.int o1), some (.int o2), some (pr P)] = .ok (.lst ((tk.drop 1).map DV.int)) := slF_e (g := DV.int) (xs := tk) (z := 1) rfl rfl (by decide)
    exact ⟨tk.drop 1, sh, set_e e1, by rw [List.length_drop]; omega, fun x hx => hk x (List.mem_of_mem_drop hx), by omega, hb.mono (by omega)⟩
  rw [decide_eq_false w1, if_neg Bool.false_ne_true, ev_ifS way_e]
  by_cases w2 : w = 2
  · rw [decide_eq_true w2, if_pos rfl]
    have e2 : ∃ j : Int, (-1 ≤ j ∧ j ≤ 7) ∧ (gBin dIx (eLst (aCons (gUn dNeg (gC (.int 1))) (aCons (gCB dLen (aCons (gVar 3) aNil)) aNil))) (gBin dMod (gCB dInt (aCons (gBin dIx (gVar 0) (gBin dAdd (gVar 1) (gC (.int 4)))) aNil)) (gC (.int 2)))) [some (di xs), some (.int a), some (.int (s : Int)), some (ssD zs), some (di tk), some (dp sh), some (.int w), some (.int k), some (.int o1), some (.int o2), some (pr P)] = .ok (.int j) := by
      have l2 : eLst (aCons (gUn dNeg (gC (.int 1))) (aCons (gCB dLen (aCons (gVar 3) aNil)) aNil)) [some (di xs), some (.int a), some (.int (s : Int)), some (ssD zs), some (di tk), some (dp sh), some (.int w), some (.int k), some (.int o1), some (.int o2), some (pr P)] = .ok (.lst [.int (-1), .int (zs.length : Int)]) := lst2 rfl (len_e (g := sD) (xs := zs) rfl)
      rcases yc with yc | yc
      · exact ⟨-1, by decide, (bin_e l2 (y2 tk sh)).trans (by rw [yc]; rfl)⟩
      · exact ⟨(zs.length : Int), by omega, (bin_e l2 (y2 tk sh)).trans (by rw [yc]; rfl)⟩
    obtain ⟨j, hj, e2⟩ := e2
    exact ⟨tk ++ [j], sh, app_g (g := DV.int) (xs := tk) (x := j) rfl e2 (by omega), by rw [List.length_append, List.length_singleton]; exact Nat.le_refl _, ap j hj, by omega, hb.mono (by omega)⟩
  rw [decide_eq_false w2, if_neg Bool.false_ne_true, ev_ifS way_e]
  by_cases w3 : w = 3
  · rw [decide_eq_true w3, if_pos rfl]
    obtain ⟨sh', e, l, hb'⟩ := plus_set (xs := xs) (tk := tk) (a := a) (w := w) (k := k) (o1 := o1) (o2 := o2) (s := s) (zs := zs) (P := P) (i := 8) (g := gVar 10) hb (by omega : b + 60 ≤ 20000) hP hN (by omega : 0 ≤ o1 ∧ o1 < (sh.length : Int)) rfl rfl
    exact ⟨tk, sh', e, Nat.le_succ _, hk, by omega, hb'.mono (by omega)⟩
  rw [decide_eq_false w3, if_neg Bool.false_ne_true, ev_ifS way_e]
  by_cases w4 : w = 4
  · rw [decide_eq_true w4, if_pos rfl]
    obtain ⟨sh', e, l, hb'⟩ := plus_set (xs := xs) (tk := tk) (a := a) (w := w) (k := k) (o1 := o1) (o2 := o2) (s := s) (zs := zs) (P := P) (i := 8) (g := gVar 10) hb (by omega : b + 60 ≤ 20000) hP hN (by omega : 0 ≤ o1 ∧ o1 < (sh.length : Int)) rfl rfl
    obtain ⟨sh2, e2, l2, hb2⟩ := plus_set (xs := xs) (tk := tk) (a := a) (w := w) (k := k) (o1 := o1) (o2 := o2) (s := s) (zs := zs) (P := P) (i := 9) (g := (eTup (aCons (gUn dNeg (gBin dIx (gVar 10) (gC (.int 0)))) (aCons (gBin dIx (gVar 10) (gC (.int 1))) aNil)))) hb' (by omega : b + 60 + 60 ≤ 20000) (sh_neg hP) (by omega) (by omega : 0 ≤ o2 ∧ o2 < (sh'.length : Int)) rfl (tup2 (by rfl) rfl)
    exact ⟨tk, sh2, (ev_seq e).trans e2, Nat.le_succ _, hk, by omega, hb2.mono (by omega)⟩
  rw [decide_eq_false w4, if_neg Bool.false_ne_true, ev_ifS way_e]
  by_cases w5 : w = 5
  · rw [decide_eq_true w5, if_pos rfl]
    have c1 : gBin dAdd (gVar 5) (eLst (aCons (eTup (aCons (gC (.int 0)) (aCons (gC (.int 1)) aNil))) aNil)) [some (di xs), some (.int a), some (.int (s : Int)), some (ssD zs), some (di tk), some (dp sh), some (.int w), some (.int k), some (.int o1), some (.int o2), some (pr P)] = .ok (dp (sh ++ [(0, 1)])) := (bin_e rfl (one_e (g := pr) (x := (0, 1)) rfl)).trans (cat_e (g := pr) (xs := sh) (ys := [(0, 1)]) (by rw [List.length_singleton]; omega))
    have c2 : gSl (gVar 5) (gPart (gC (.int 1))) gNoPart [some (di xs), some (.int a), some (.int (s : Int)), some (ssD zs), some (di tk), some (dp sh), some (.int w), some (.int k), some (.int o1), some (.int o2), some (pr P)] = .ok (.lst ((sh.drop 1).map pr)) := slF_e (g := pr) (xs := sh) (z := 1) rfl rfl (by decide)
    have e5 : ∃ sh' : Prs, (gBin dIx (eLst (aCons (gBin dAdd (gVar 5) (eLst (aCons (eTup (aCons (gC (.int 0)) (aCons (gC (.int 1)) aNil))) aNil))) (aCons (gSl (gVar 5) (gPart (gC (.int 1))) gNoPart) aNil))) (gBin dMod (gCB dInt (aCons (gBin dIx (gVar 0) (gBin dAdd (gVar 1) (gC (.int 4)))) aNil)) (gC (.int 2)))) [some (di xs), some (.int a), some (.int (s : Int)), some (ssD zs), some (di tk), some (dp sh), some (.int w), some (.int k), some (.int o1), some (.int o2), some (pr P)] = .ok (dp sh') ∧ sh'.length ≤ s + 1 ∧ ShB sh' b := by
      rcases yc with yc | yc
      · refine ⟨sh ++ [(0, 1)], (bin_e (lst2 c1 c2) (y2 tk sh)).trans (by rw [yc]; rfl), by rw [List.length_append, List.length_singleton]; omega, fun x hx => ?_⟩
        rcases List.mem_append.mp hx with z | z
        · exact hb x z
        · rw [List.mem_singleton.mp z]
          exact ⟨0, ⟨⟨by decide, by decide⟩, by decide⟩, Nat.zero_le _⟩
      · exact ⟨sh.drop 1, (bin_e (lst2 c1 c2) (y2 tk sh)).trans (by rw [yc]; rfl), by rw [List.length_drop]; omega, fun x hx => hb x (List.mem_of_mem_drop hx)⟩
    obtain ⟨sh', e, l, hb'⟩ := e5
    exact ⟨tk, sh', set_e e, Nat.le_succ _, hk, l, hb'.mono (by omega)⟩
  rw [decide_eq_false w5, if_neg Bool.false_ne_true]
  have t6 : (gAnd (gB (gBin dEq (gVar 6) (gC (.int 6)))) (gNot (gB (gBin dIn (gVar 7) (gVar 4))))) [some (di xs), some (.int a), some (.int (s : Int)), some (ssD zs), some (di tk), some (dp sh), some (.int w), some (.int k), some (.int o1), some (.int o2), some (pr P)] = .ok (decide (w = 6) && !decide (k ∈ tk)) := and_e way_e (not_e (b_e ((bin_e rfl rfl).trans in_i)))
  rw [ev_ifS t6]
  cases decide (w = 6) && !decide (k ∈ tk) with
  | true =>
    rw [if_pos rfl]
    have gz := hg _ (List.getElem_mem (by omega : k.toNat < zs.length))
    have pz : gBin dIx (gBin dIx (gVar 3) (gVar 7)) (gC (.int 1)) [some (di xs), some (.int a), some (.int (s : Int)), some (ssD zs), some (di (tk ++ [k])), some (dp sh), some (.int w), some (.int k), some (.int o1), some (.int o2), some (pr P)] = .ok (.int (zAt zs k.toNat).2) := (bin_e ((bin_e rfl rfl).trans (z_g k0.1 k0.2)) rfl).trans ix1
    have ez : zAt zs k.toNat = zs[k.toNat]'(by omega) := by unfold zAt; rw [getD_lt (by omega)]
    have g2 := gz.2.2
    rw [← ez] at g2
    obtain ⟨sh', e, l, hb'⟩ := plus_set (xs := xs) (tk := tk ++ [k]) (a := a) (w := w) (k := k) (o1 := o1) (o2 := o2) (s := s) (zs := zs) (P := P) (i := 8) (g := (eTup (aCons (gBin dIx (gBin dIx (gVar 3) (gVar 7)) (gC (.int 1))) (aCons (gC (.int 1)) aNil)))) (Q := ((zAt zs k.toNat).2, 1)) hb (by omega : b + 3720 ≤ 20000) sh_int (by omega) (by omega : 0 ≤ o1 ∧ o1 < (sh.length : Int)) rfl (tup2 pz rfl)
    exact ⟨tk ++ [k], sh', (ev_seq (app_g (g := DV.int) (xs := tk) (x := k) rfl rfl (by omega))).trans e, by rw [List.length_append, List.length_singleton]; exact Nat.le_refl _, ap k kb, by omega, hb'⟩
  | false =>
    rw [if_neg Bool.false_ne_true]
    have e7 : gRev (gVar 4) [some (di xs), some (.int a), some (.int (s : Int)), some (ssD zs), some (di tk), some (dp sh), some (.int w), some (.int k), some (.int o1), some (.int o2), some (pr P)] = .ok (di tk.reverse) := by
      show dRev (di tk) = _
      unfold dRev di
      dsimp only
      rw [List.map_reverse]
    exact ⟨tk.reverse, sh, set_e e7, by rw [List.length_reverse]; exact Nat.le_succ _, fun x hx => hk x (List.mem_reverse.mp hx), by omega, hb.mono (by omega)⟩
theorem changed_ok {b : Nat} (hx : xs.length = 170) (ha : 0 ≤ a ∧ a + 4 < 170) (s1 : 1 ≤ s) (hs : s ≤ 6) (l1 : 1 ≤ zs.length) (hl : zs.length ≤ 7) (hg : ∀ z ∈ zs, GS0 (s : Int) z) (ht : tk.length ≤ 90) (hk : TkB tk) (sl : sh.length = s) (hb : ShB sh b) (b1 : b ≤ 16000) : ∃ (tk' : List Int) (sh' : Prs), m__law_changed [di xs, .int a, .int (s : Int), ssD zs, di tk, dp sh] = .ok (.tup [di tk', dp sh']) ∧ CR s tk tk' sh' b := by
  have ixa : ∀ j : Int, 0 ≤ j → j ≤ 4 → dIx (di xs) (.int (a + j)) = .ok (.int (xs.getD (a + j).toNat 0)) := fun j h0 h4 => ixz (by omega) (by omega)
  have ix0 : dIx (di xs) (.int a) = .ok (.int (xs.getD a.toNat 0)) := ixz (by omega) (by omega)
  have st : startD 11 [di xs, .int a, .int (s : Int), ssD zs, di tk, dp sh] = [some (di xs), some (.int a), some (.int (s : Int)), some (ssD zs), some (di tk), some (dp sh), none, none, none, none, none] := rfl
  have e0 : (gAsg (gPure (gCB dList (aCons (gVar 4) aNil))) (gtName 4)) [some (di xs), some (.int a), some (.int (s : Int)), some (ssD zs), some (di tk), some (dp sh), none, none, none, none, none] = .nx [some (di xs), some (.int a), some (.int (s : Int)), some (ssD zs), some (di tk), some (dp sh), none, none, none, none, none] := set_e ((cb1 rfl).trans rfl)
  have e1 : (gAsg (gPure (gCB dList (aCons (gVar 5) aNil))) (gtName 5)) [some (di xs), some (.int a), some (.int (s : Int)), some (ssD zs), some (di tk), some (dp sh), none, none, none, none, none] = .nx [some (di xs), some (.int a), some (.int (s : Int)), some (ssD zs), some (di tk), some (dp sh), none, none, none, none, none] := set_e ((cb1 rfl).trans rfl)
  have e2 : (gAsg (gPure (gBin dMod (gCB dInt (aCons (gBin dIx (gVar 0) (gVar 1)) aNil)) (gC (.int 8)))) (gtName 6)) [some (di xs), some (.int a), some (.int (s : Int)), some (ssD zs), some (di tk), some (dp sh), none, none, none, none, none] = .nx ([some (di xs), some (.int a), some (.int (s : Int)), some (ssD zs), some (di tk), some (dp sh), some (.int (xs.getD a.toNat 0 % 8)), none, none, none, none])  := set_e ((bin_e ((cb1 ((bin_e rfl rfl).trans ix0)).trans dInt_i) rfl).trans (dMod_i (by decide)))
  generalize xs.getD a.toNat 0 % 8 = w at e2
  have e3 : (gAsg (gPure (gBin dMod (gCB dInt (aCons (gBin dIx (gVar 0) (gBin dAdd (gVar 1) (gC (.int 1)))) aNil)) (gCB dLen (aCons (gVar 3) aNil)))) (gtName 7)) [some (di xs), some (.int a), some (.int (s : Int)), some (ssD zs), some (di tk), some (dp sh), some (.int w), none, none, none, none] = .nx [some (di xs), some (.int a), some (.int (s : Int)), some (ssD zs), some (di tk), some (dp sh), some (.int w), some (.int (xs.getD (a + 1).toNat 0 % (zs.length : Int))), none, none, none] := set_e ((bin_e ((cb1 ((bin_e rfl ((bin_e rfl rfl).trans dAdd_i)).trans (ixa 1 (by decide) (by decide)))).trans dInt_i) (len_e (g := sD) (xs := zs) rfl)).trans (dMod_i (by omega)))
  have k0 : 0 ≤ xs.getD (a + 1).toNat 0 % (zs.length : Int) ∧ xs.getD (a + 1).toNat 0 % (zs.length : Int) < (zs.length : Int) := ⟨Int.emod_nonneg _ (by omega), Int.emod_lt_of_pos _ (by omega)⟩
  generalize xs.getD (a + 1).toNat 0 % (zs.length : Int) = k at e3 k0
  have e4 : (gAsg (gPure (gBin dMod (gCB dInt (aCons (gBin dIx (gVar 0) (gBin dAdd (gVar 1) (gC (.int 2)))) aNil)) (gVar 2))) (gtName 8)) [some (di xs), some (.int a), some (.int (s : Int)), some (ssD zs), some (di tk), some (dp sh), some (.int w), some (.int k), none, none, none] = .nx [some (di xs), some (.int a), some (.int (s : Int)), some (ssD zs), some (di tk), some (dp sh), some (.int w), some (.int k), some (.int (xs.getD (a + 2).toNat 0 % (s : Int))), none, none] := set_e ((bin_e ((cb1 ((bin_e rfl ((bin_e rfl rfl).trans dAdd_i)).trans (ixa 2 (by decide) (by decide)))).trans dInt_i) rfl).trans (dMod_i (by omega)))
  have q1 : 0 ≤ xs.getD (a + 2).toNat 0 % (s : Int) ∧ xs.getD (a + 2).toNat 0 % (s : Int) < (s : Int) := ⟨Int.emod_nonneg _ (by omega), Int.emod_lt_of_pos _ (by omega)⟩
  generalize xs.getD (a + 2).toNat 0 % (s : Int) = o1 at e4 q1
  have e5 : (gAsg (gPure (gBin dMod (gCB dInt (aCons (gBin dIx (gVar 0) (gBin dAdd (gVar 1) (gC (.int 3)))) aNil)) (gVar 2))) (gtName 9)) [some (di xs), some (.int a), some (.int (s : Int)), some (ssD zs), some (di tk), some (dp sh), some (.int w), some (.int k), some (.int o1), none, none] = .nx [some (di xs), some (.int a), some (.int (s : Int)), some (ssD zs), some (di tk), some (dp sh), some (.int w), some (.int k), some (.int o1), some (.int (xs.getD (a + 3).toNat 0 % (s : Int))), none] := set_e ((bin_e ((cb1 ((bin_e rfl ((bin_e rfl rfl).trans dAdd_i)).trans (ixa 3 (by decide) (by decide)))).trans dInt_i) rfl).trans (dMod_i (by omega)))
  have q2 : 0 ≤ xs.getD (a + 3).toNat 0 % (s : Int) ∧ xs.getD (a + 3).toNat 0 % (s : Int) < (s : Int) := ⟨Int.emod_nonneg _ (by omega), Int.emod_lt_of_pos _ (by omega)⟩
  generalize xs.getD (a + 3).toNat 0 % (s : Int) = o2 at e5 q2
  obtain ⟨P, N, pe, hP, hN⟩ := part4 (y := xs.getD (a + 4).toNat 0)
  have e6 : (gAsg (gPure (gBin dIx (eLst (aCons (eTup (aCons (gC (.int 1)) (aCons (gC (.int 1)) aNil))) (aCons (eTup (aCons (gC (.int 1)) (aCons (gC (.int 2)) aNil))) (aCons (eTup (aCons (gUn dNeg (gC (.int 1))) (aCons (gC (.int 3)) aNil))) (aCons (eTup (aCons (gC (.int 0)) (aCons (gC (.int 1)) aNil))) aNil))))) (gBin dMod (gCB dInt (aCons (gBin dIx (gVar 0) (gBin dAdd (gVar 1) (gC (.int 4)))) aNil)) (gC (.int 4))))) (gtName 10)) [some (di xs), some (.int a), some (.int (s : Int)), some (ssD zs), some (di tk), some (dp sh), some (.int w), some (.int k), some (.int o1), some (.int o2), none] = .nx [some (di xs), some (.int a), some (.int (s : Int)), some (ssD zs), some (di tk), some (dp sh), some (.int w), some (.int k), some (.int o1), some (.int o2), some (pr P)] := set_e ((bin_e (lst4 rfl rfl rfl rfl) ((bin_e ((cb1 ((bin_e rfl ((bin_e rfl rfl).trans dAdd_i)).trans (ixa 4 (by decide) (by decide)))).trans dInt_i) rfl).trans (dMod_i (by decide)))).trans pe)
  obtain ⟨tk', sh', e7, cr⟩ := ch_ok (w := w) hx ha hs hl hg ht hk sl hb b1 hP hN k0 q1 q2
  refine ⟨tk', sh', ?_, cr⟩
  unfold m__law_changed runB b__law_changed
  rw [st, ev_seq e0, ev_seq e1, ev_seq e2, ev_seq e3, ev_seq e4, ev_seq e5, ev_seq e6]
  show finB (gSeq chB _ _) = _
  rw [ev_seq e7, ev_ret (xtup2 (a := gMove 4) (b := gPure (gVar 5)) rfl rfl)]
  rfl
end
end M
end

/-! text K5 -/
section
set_option maxRecDepth 100000
set_option maxHeartbeats 4000000
namespace M
open PySem DL
theorem isum_app {xs ys : List Int} : isum (xs ++ ys) = isum xs + isum ys := by
  induction xs with
  | nil => rw [List.nil_append]; show _ = 0 + _; omega
  | cons x xs ih => rw [List.cons_append, isum_cons, isum_cons, ih]; omega
theorem isum_nn {f : Int → Int} : ∀ {xs : List Int}, (∀ x ∈ xs, 0 ≤ f x) → 0 ≤ isum (xs.map f)
  | [], _ => Int.le_refl 0
  | x :: xs, h => by
    have ih := isum_nn (xs := xs) fun y hy => h y (List.mem_cons_of_mem _ hy)
    have := h x List.mem_cons_self
    rw [List.map_cons, isum_cons]
    omega
theorem isum_le2 {α : Type} {f g : α → Int} : ∀ {xs : List α}, (∀ x ∈ xs, f x ≤ g x) → isum (xs.map f) ≤ isum (xs.map g)
  | [], _ => Int.le_refl 0
  | x :: xs, h => by
    have ih := isum_le2 (xs := xs) fun y hy => h y (List.mem_cons_of_mem _ hy)
    have := h x List.mem_cons_self
    rw [List.map_cons, List.map_cons, isum_cons, isum_cons]
    omega
theorem isum_perm {xs ys : List Int} (h : xs.Perm ys) : isum xs = isum ys := by
  induction h with
  | nil => rfl
  | cons x _ ih => rw [isum_cons, isum_cons, ih]
  | swap x y l => rw [isum_cons, isum_cons, isum_cons, isum_cons]; omega
  | trans _ _ ih1 ih2 => rw [ih1, ih2]
theorem sub_sum {f : Int → Int} : ∀ (A B : List Int), A.Nodup → (∀ a ∈ A, a ∈ B) → (∀ b ∈ B, 0 ≤ f b) → isum (A.map f) ≤ isum (B.map f)
  | [], B, _, _, h => isum_nn h
  | a :: A, B, hn, hs, h => by
    have hn := List.nodup_cons.mp hn
    have p := List.perm_cons_erase (hs a List.mem_cons_self)
    have e : isum (B.map f) = isum ((a :: B.erase a).map f) := isum_perm (p.map f)
    have ih := sub_sum (f := f) A (B.erase a) hn.2 (fun x hx => (List.mem_erase_of_ne (by intro z; subst z; exact hn.1 hx)).mpr (hs x (List.mem_cons_of_mem _ hx))) fun b hb => h b (List.mem_of_mem_erase hb)
    rw [e, List.map_cons, List.map_cons, isum_cons, isum_cons]
    omega
theorem le_fold : ∀ (xs : List Nat) (n : Nat), n ≤ xs.foldl max n ∧ ∀ x ∈ xs, x ≤ xs.foldl max n
  | [], n => ⟨Nat.le_refl _, fun x h => by cases h⟩
  | y :: xs, n => by
    obtain ⟨h1, h2⟩ := le_fold xs (max n y)
    rw [List.foldl_cons]
    refine ⟨by omega, fun x hx => ?_⟩
    rcases List.mem_cons.mp hx with z | z
    · omega
    · exact h2 x z
theorem le_mxl {zs : List St} {z : St} (h : z ∈ zs) : z.1.length ≤ mxl zs := (le_fold _ 0).2 _ (List.mem_map.mpr ⟨z, h, rfl⟩)
theorem sh_map {sh : Prs} : (intL sh.length).map (shAt sh) = sh := by
  refine List.ext_getElem (by rw [List.length_map, ints_len]) fun i a b => ?_
  rw [List.getElem_map]
  have e : ((intL sh.length)[i]'(by rw [ints_len]; exact b)).toNat = i := by
    unfold intL
    rw [List.getElem_map, List.getElem_range]
    omega
  unfold shAt
  rw [e, getD_lt b]
structure DueF (s : Nat) (zs : List St) (tk : List Int) (sh : Prs) : Prop where
  nd : tk.Nodup
  r : ∀ k ∈ tk, 0 ≤ k ∧ k < (zs.length : Int)
  sl : sh.length = s
  nn : ∀ e : Int, 0 ≤ e → e < (s : Int) → 0 ≤ NN sh e ∧ ∃ k ∈ tk, e ∈ (zAt zs k.toNat).1
  zz : ∀ z ∈ zs, isum (z.1.map (NN sh)) ≤ hN z.1.length * z.2
  tot : isum ((intL s).map (NN sh)) = 60 * costOf zs tk
  eq : asum (0, 1) sh = (costOf zs tk, 1)
section
variable {s : Nat} {zs : List St} {tk : List Int} {sh : Prs}
theorem asum_sh (h : Dt s zs tk sh) (hl : sh.length = s) : Rp 60 (asum (0, 1) sh) (isum ((intL s).map (NN sh))) ∧ gi (asum (0, 1) sh).1 (asum (0, 1) sh).2 = 1 := by
  have k := asum_rp (D := 60) (as := intL s) (x := (0, 1)) (M := 0) (f := shAt sh) (n := NN sh) (fun e he => (h.nn (by have := mem_ints.mp he; omega)).1.1) ⟨by decide, by decide⟩
  rw [Int.zero_add, ← hl, sh_map, hl] at k
  exact ⟨k, (asum_red (zs := sh) (fun x hx => (h.gd x hx).2.2) ⟨by decide, by decide⟩).1⟩
theorem pair_one {x : Int × Int} {P : Int} (h : Rp 60 x (60 * P)) (r : gi x.1 x.2 = 1) : x = (P, 1) := by
  obtain ⟨h1, h2⟩ := h
  have e : x.1 = P * x.2 := by
    have e1 : x.1 * 60 = (P * x.2) * 60 := by rw [h1]; grind
    omega
  have d : x.2.natAbs ∣ x.1.natAbs := by rw [e, Int.natAbs_mul]; exact ⟨P.natAbs, Nat.mul_comm _ _⟩
  have r2 : Nat.gcd x.1.natAbs x.2.natAbs = 1 := Int.ofNat.inj r
  rw [Nat.gcd_eq_right d] at r2
  have y : x.2 = 1 := by omega
  rw [y, Int.mul_one] at e
  exact Prod.ext e y
theorem due_facts (h : Dt s zs tk sh) (d : dueB s zs tk sh = true) : DueF s zs tk sh := by
  unfold dueB at d
  split at d
  · cases d
  · rename_i c
    have c : (!decide (sh.length = s) || (!decide tk.Nodup || !tk.all (inR zs))) = false := by simpa using c
    have a1 := (Bool.or_eq_false_iff.mp c).1
    have a23 := Bool.or_eq_false_iff.mp (Bool.or_eq_false_iff.mp c).2
    have hl : sh.length = s := by simpa using a1
    have nd : tk.Nodup := by simpa using a23.1
    have hr := inR_of (by simpa using a23.2 : tk.all (inR zs) = true)
    unfold tailB at d
    split at d
    · cases d
    · rename_i c1
      split at d
      · cases d
      · rename_i c2
        have eq := of_decide_eq_true d
        have as := asum_sh h hl
        refine ⟨nd, hr, hl, fun e e0 es => ?_, fun z hz => ?_, ?_, eq⟩
        · have b : bE zs tk sh e = false := by
            cases hb : bE zs tk sh e with
            | false => rfl
            | true => exact absurd (List.any_eq_true.mpr ⟨e, mem_ints.mpr ⟨e0, es⟩, hb⟩) c1
          unfold bE at b
          obtain ⟨b1, b2⟩ := Bool.or_eq_false_iff.mp b
          have b1 := of_decide_eq_false b1
          have b2 : tk.any (hasE zs e) = true := by simpa using b2
          obtain ⟨k, k1, k2⟩ := List.any_eq_true.mp b2
          have n := (h.nn (e := e) (by omega)).1.1
          refine ⟨?_, k, k1, of_decide_eq_true k2⟩
          refine Classical.byContradiction fun z => ?_
          have l := Int.mul_lt_mul_of_pos_right (by omega : NN sh e < 0) n.2
          rw [← n.1] at l
          omega
        · have o : overB sh z = false := by
            cases hb : overB sh z with
            | false => rfl
            | true => exact absurd (List.any_eq_true.mpr ⟨z, hz, hb⟩) c2
          have o := of_decide_eq_false o
          have r := (h.rhs hl hz).1
          have l := lhs_rp (z := z) (h.len hz)
          have k := (rp_lt (by decide) l r).mpr
          exact Classical.byContradiction fun z => o (k (by omega))
        · have k := as.1
          rw [eq] at k
          have k1 : costOf zs tk * 60 = isum ((intL s).map (NN sh)) * 1 := k.1
          omega
theorem flat_sum {f : Int → Int} : ∀ {ch : List St}, isum ((ch.flatMap fun z => z.1).map f) = isum (ch.map fun z => isum (z.1.map f))
  | [] => rfl
  | z :: ch => by
    rw [List.flatMap_cons, List.map_append, isum_app, flat_sum (ch := ch), List.map_cons, isum_cons]
theorem mul_sum {c : Int} : ∀ {ch : List St}, isum (ch.map fun z => c * z.2) = c * isum (ch.map fun z => z.2)
  | [] => by show (0 : Int) = c * 0; omega
  | z :: ch => by
    rw [List.map_cons, List.map_cons, isum_cons, isum_cons, mul_sum (ch := ch), Int.mul_add]
theorem weak (h : Dt s zs tk sh) (f : DueF s zs tk sh) {ch : List St} (hc : ∀ z ∈ ch, z ∈ zs) (cv : covB s ch = true) : 60 * costOf zs tk ≤ hN (mxl zs) * prc ch := by
  have k := sub_sum (f := NN sh) (intL s) (ch.flatMap fun z => z.1) (ints_asc.imp fun h => by omega) (fun e he => by
    have c := List.all_eq_true.mp cv e he
    obtain ⟨z, z1, z2⟩ := List.any_eq_true.mp c
    exact List.mem_flatMap.mpr ⟨z, z1, of_decide_eq_true z2⟩) (fun e he => by
    obtain ⟨z, z1, z2⟩ := List.mem_flatMap.mp he
    have r := (h.g z (hc z z1)).2.1 e z2
    exact (f.nn e r.1 r.2).1)
  rw [f.tot, flat_sum] at k
  have l := isum_le2 (f := fun z : St => isum (z.1.map (NN sh))) (g := fun z : St => hN (mxl zs) * z.2) (xs := ch) fun z hz => by
    have z1 := f.zz z (hc z hz)
    have p0 := (h.g z (hc z hz)).2.2.1
    have z2 := Int.mul_le_mul_of_nonneg_right (hN_mono (mxl zs) (le_mxl (hc z hz))) p0
    show isum (z.1.map (NN sh)) ≤ hN (mxl zs) * z.2
    omega
  rw [mul_sum] at l
  have e : isum (ch.map fun z => z.2) = prc ch := rfl
  rw [e] at l
  omega
theorem mxl6 (h : Dt s zs tk sh) : mxl zs ≤ 6 := fold_le _ _ (by decide) fun x hx => by
  obtain ⟨z, hz, rfl⟩ := List.mem_map.mp hx
  exact h.len hz
theorem prc_bd {ch : List St} (hc : ∀ z ∈ ch, 0 ≤ z.2 ∧ z.2 ≤ 62) : 0 ≤ prc ch ∧ prc ch ≤ 62 * (ch.length : Int) := by
  induction ch with
  | nil => exact ⟨Int.le_refl 0, Int.le_refl 0⟩
  | cons z ch ih =>
    have h1 := hc z List.mem_cons_self
    have h2 := ih fun y hy => hc y (List.mem_cons_of_mem _ hy)
    have e : prc (z :: ch) = z.2 + prc ch := rfl
    rw [e, List.length_cons]
    omega
theorem fac_rp (h : mxl zs ≤ 6) {l : Int} : Rp 60 (low ((asum (0, 1) (parts (mxl zs))).1 * l) ((asum (0, 1) (parts (mxl zs))).2 * 1)) (hN (mxl zs) * l) := by
  have k := parts_rp h
  refine low_rp (by have := k.2; omega) ?_
  have e : (asum (0, 1) (parts (mxl zs))).1 * l * 60 = (asum (0, 1) (parts (mxl zs))).1 * 60 * l := by grind
  rw [e, k.1]
  grind
/-- the bound of shares that are due is not above the least price -/
theorem bound_le {m : Nat} {c l : Int} (hm : m ≤ 6) (h0 : 0 < (asum (0, 1) (parts m)).1) (h : 60 * c ≤ hN m * l) : (low (c * (asum (0, 1) (parts m)).2) (1 * (asum (0, 1) (parts m)).1)).1 ≤ l * (low (c * (asum (0, 1) (parts m)).2) (1 * (asum (0, 1) (parts m)).1)).2 := by
  have k := parts_rp hm
  generalize asum (0, 1) (parts m) = F at k h0
  obtain ⟨k1, k2⟩ := k
  have cr := low_cross (p := c * F.2) (q := 1 * F.1) (by omega)
  have p := low_pos (p := c * F.2) (q := 1 * F.1) (by omega)
  generalize low (c * F.2) (1 * F.1) = x at cr p
  have a : c * F.2 ≤ l * F.1 := by
    have a1 := Int.mul_le_mul_of_nonneg_right h (Int.le_of_lt k2)
    have a2 : hN m * l * F.2 = l * F.1 * 60 := by
      have : hN m * l * F.2 = hN m * F.2 * l := by grind
      rw [this, ← k1]
      grind
    have a3 : 60 * c * F.2 = c * F.2 * 60 := by grind
    rw [a2, a3] at a1
    omega
  have b := Int.mul_le_mul_of_nonneg_right a (Int.le_of_lt p)
  rw [← cr, Int.one_mul] at b
  have e : l * F.1 * x.2 = l * x.2 * F.1 := by grind
  rw [e] at b
  exact Int.le_of_mul_le_mul_right b h0
end
end M
end

/-! text K6 -/
section
set_option maxRecDepth 100000
set_option maxHeartbeats 4000000
namespace M
open PySem DL
/-! the shares of the quick cover are due (dual fitting) -/
def MinB (cv : Int → Bool) (zs : List St) (i : Nat) : Option Bst → Prop
  | none => ∀ k, k < i → (fresh cv (zAt zs k)).length = 0
  | some q => 0 < q.2.1 ∧ ∀ k, k < i → 0 < (fresh cv (zAt zs k)).length → q.1 * ((fresh cv (zAt zs k)).length : Int) ≤ (zAt zs k).2 * (q.2.1 : Int)
theorem min_ok {cv : Int → Bool} {zs : List St} : ∀ i : Nat, MinB cv zs i (bstN cv zs i)
  | 0 => fun k hk => by omega
  | i + 1 => by
    have ih := min_ok (cv := cv) (zs := zs) i
    have e0 : bstN cv zs (i + 1) = stepZ cv (zAt zs i) i (bstN cv zs i) := rfl
    rw [e0]
    unfold stepZ
    by_cases m0 : 0 < (fresh cv (zAt zs i)).length
    · rw [decide_eq_true m0, Bool.true_and]
      cases hb : bstN cv zs i with
      | none =>
        rw [hb] at ih
        rw [if_pos (show lessB (zAt zs i).2 (fresh cv (zAt zs i)).length none = true from rfl)]
        refine ⟨m0, fun k hk hm => ?_⟩
        by_cases c : k = i
        · rw [c]; exact Int.le_refl _
        · have := ih k (by omega)
          omega
      | some q =>
        rw [hb] at ih
        obtain ⟨q0, hq⟩ := ih
        show MinB cv zs (i + 1) (if lessB (zAt zs i).2 (fresh cv (zAt zs i)).length (some q) = true then _ else _)
        cases hl : lessB (zAt zs i).2 (fresh cv (zAt zs i)).length (some q) with
        | true =>
          have hl := of_decide_eq_true hl
          rw [if_pos rfl]
          refine ⟨m0, fun k hk hm => ?_⟩
          by_cases c : k = i
          · rw [c]; exact Int.le_refl _
          · have h1 := hq k (by omega) hm
            show (zAt zs i).2 * _ ≤ _
            generalize (fresh cv (zAt zs k)).length = mk at h1 hm ⊢
            generalize (fresh cv (zAt zs i)).length = mi at hl m0 ⊢
            have a1 := Int.mul_le_mul_of_nonneg_right (Int.le_of_lt hl) (by omega : (0 : Int) ≤ (mk : Int))
            have a2 := Int.mul_le_mul_of_nonneg_right h1 (by omega : (0 : Int) ≤ (mi : Int))
            have e1 : (zAt zs i).2 * (q.2.1 : Int) * (mk : Int) = (zAt zs i).2 * (mk : Int) * (q.2.1 : Int) := by grind
            have e2 : q.1 * (mi : Int) * (mk : Int) = q.1 * (mk : Int) * (mi : Int) := by grind
            have e3 : (zAt zs k).2 * (q.2.1 : Int) * (mi : Int) = (zAt zs k).2 * (mi : Int) * (q.2.1 : Int) := by grind
            rw [e1, e2] at a1
            rw [e3] at a2
            exact Int.le_of_mul_le_mul_right (Int.le_trans a1 a2) (by omega : (0 : Int) < (q.2.1 : Int))
        | false =>
          have hl := of_decide_eq_false hl
          rw [if_neg Bool.false_ne_true]
          refine ⟨q0, fun k hk hm => ?_⟩
          by_cases c : k = i
          · rw [c]; omega
          · exact hq k (by omega) hm
    · rw [decide_eq_false m0, Bool.false_and, if_neg Bool.false_ne_true]
      cases hb : bstN cv zs i with
      | none =>
        rw [hb] at ih
        intro k hk
        by_cases c : k = i
        · rw [c]; omega
        · exact ih k (by omega)
      | some q =>
        rw [hb] at ih
        refine ⟨ih.1, fun k hk hm => ?_⟩
        by_cases c : k = i
        · rw [c] at hm; omega
        · exact ih.2 k (by omega) hm
theorem fit {v p : Int} {u : Nat} (hu : u ≤ 6) (hv : 0 ≤ v) (h : v * (u : Int) ≤ 60 * p) : ∀ c : Nat, c ≤ u → v * (c : Int) + p * hN (u - c) ≤ p * hN u
  | 0, _ => by rw [Nat.sub_zero]; show v * 0 + _ ≤ _; omega
  | c + 1, hc => by
    have ih := fit hu hv h c (by omega)
    obtain ⟨j, hj⟩ : ∃ j, u - c = j + 1 := ⟨u - c - 1, by omega⟩
    have e : u - (c + 1) = j := by omega
    rw [hj] at ih
    rw [e]
    have e2 : hN (j + 1) = hN j + 60 / ((j : Int) + 1) := rfl
    rw [e2, Int.mul_add] at ih
    have e3 : v * ((c + 1 : Nat) : Int) = v * (c : Int) + v := by rw [Int.natCast_add, Int.mul_add]; omega
    rw [e3]
    have l : v * ((j : Int) + 1) ≤ v * (u : Int) := Int.mul_le_mul_of_nonneg_left (by omega) hv
    have k : v ≤ p * (60 / ((j : Int) + 1)) := by
      have cs : j = 0 ∨ j = 1 ∨ j = 2 ∨ j = 3 ∨ j = 4 ∨ j = 5 := by omega
      rcases cs with rfl | rfl | rfl | rfl | rfl | rfl <;> (simp at l ⊢; omega)
    omega
theorem low_sh {p : Int} {m : Nat} (h0 : 0 < m) (h6 : m ≤ 6) : Sh (low p (m : Int)) (p * (60 / (m : Int))) := by
  refine ⟨low_rp (by omega) ?_, gi_low (by omega)⟩
  have c : m = 1 ∨ m = 2 ∨ m = 3 ∨ m = 4 ∨ m = 5 ∨ m = 6 := by omega
  rcases c with rfl | rfl | rfl | rfl | rfl | rfl <;> simp <;> omega
structure Iv2 (zs : List St) (S : Sg) (N : Int → Int) : Prop where
  a : ∀ (j : Nat) (x : Int × Int), S.sh.getD j none = some x → Sh x (N (j : Int))
  b0 : ∀ e, e ∉ S.cov → N e = 0
  b1 : ∀ e, 0 ≤ N e ∧ N e ≤ 3720
  c : ∀ z ∈ zs, isum (z.1.map N) + z.2 * hN (fresh (cvL S.cov) z).length ≤ z.2 * hN z.1.length
  d : isum (S.cov.map N) = 60 * costOf zs S.tk
  e1 : ∀ k ∈ S.tk, ∀ x ∈ (zAt zs k.toNat).1, x ∈ S.cov
  e2 : S.tk.Nodup
  f : ∀ x ∈ S.cov, ∃ k ∈ S.tk, x ∈ (zAt zs k.toNat).1
  n : S.cov.Nodup
def upN (fr : List Int) (v : Int) (N : Int → Int) (e : Int) : Int := if e ∈ fr then v else N e
theorem up_cnt {cov fr : List Int} {v : Int} {N : Int → Int} (hf : ∀ e ∈ fr, e ∉ cov) (h0 : ∀ e, e ∉ cov → N e = 0) : ∀ l : List Int, ∃ c : Nat, isum (l.map (upN fr v N)) = isum (l.map N) + v * (c : Int) ∧ (l.filter fun e => !cvL (cov ++ fr) e).length + c = (l.filter fun e => !cvL cov e).length
  | [] => ⟨0, by show (0 : Int) = 0 + v * 0; omega, rfl⟩
  | x :: l => by
    obtain ⟨c, h1, h2⟩ := up_cnt hf h0 l
    rw [List.map_cons, List.map_cons, isum_cons, isum_cons, h1, List.filter_cons, List.filter_cons]
    by_cases a : x ∈ fr
    · have a2 := hf x a
      have t1 : cvL (cov ++ fr) x = true := decide_eq_true (List.mem_append.mpr (.inr a))
      have t2 : cvL cov x = false := decide_eq_false a2
      have u : upN fr v N x = v := if_pos a
      rw [t1, t2, u, h0 x a2, if_neg (by simp), if_pos (show (!false) = true from rfl), List.length_cons]
      refine ⟨c + 1, ?_, by omega⟩
      rw [Int.natCast_add, Int.mul_add]
      omega
    · have u : upN fr v N x = N x := if_neg a
      rw [u]
      by_cases b : x ∈ cov
      · have t1 : cvL (cov ++ fr) x = true := decide_eq_true (List.mem_append.mpr (.inl b))
        have t2 : cvL cov x = true := decide_eq_true b
        rw [t1, t2, if_neg (by simp), if_neg (by simp)]
        exact ⟨c, by omega, h2⟩
      · have t1 : cvL (cov ++ fr) x = false := decide_eq_false fun z => (List.mem_append.mp z).elim b a
        have t2 : cvL cov x = false := decide_eq_false b
        rw [t1, t2, if_pos (show (!false) = true from rfl), if_pos (show (!false) = true from rfl), List.length_cons, List.length_cons]
        exact ⟨c, by omega, by omega⟩
theorem isum_same {f g : Int → Int} : ∀ {l : List Int}, (∀ x ∈ l, f x = g x) → isum (l.map f) = isum (l.map g)
  | [], _ => rfl
  | x :: l, h => by
    rw [List.map_cons, List.map_cons, isum_cons, isum_cons, h x List.mem_cons_self, isum_same (l := l) fun y hy => h y (List.mem_cons_of_mem _ hy)]
theorem isum_const {f : Int → Int} {v : Int} : ∀ {l : List Int}, (∀ x ∈ l, f x = v) → isum (l.map f) = v * (l.length : Int)
  | [], _ => by show (0 : Int) = v * 0; omega
  | x :: l, h => by
    rw [List.map_cons, isum_cons, h x List.mem_cons_self, isum_const (l := l) fun y hy => h y (List.mem_cons_of_mem _ hy), List.length_cons, Int.natCast_add, Int.mul_add]
    omega
theorem cost_app {zs : List St} {tk : List Int} {k : Int} : costOf zs (tk ++ [k]) = costOf zs tk + priceAt zs k := by
  unfold costOf
  rw [List.map_append, List.sum_append]
  simp
theorem iv2_step {s : Nat} {zs : List St} {S : Sg} {q : Bst} {N : Int → Int} (hs : s ≤ 6) (hg : ∀ z ∈ zs, GS0 (s : Int) z) (hi : Inv s zs S) (h : Iv2 zs S N) (hq : pk zs S = some q) : ∃ N', Iv2 zs (stp zs S q) N' := by
  have b := bst_ok (Nat.le_refl _) hq
  have b8 := b.sz (by omega : (s : Int) ≤ 8) hg
  have mn := min_ok (cv := cvL S.cov) (zs := zs) zs.length
  rw [show bstN (cvL S.cov) zs zs.length = some q from hq] at mn
  have gz : GS0 (s : Int) (zAt zs q.2.2) := by unfold zAt; rw [getD_lt b.1]; exact hg _ (List.getElem_mem _)
  obtain ⟨f1, f2⟩ := fresh_pr hi gz
  have lz : ∀ z, GS0 (s : Int) z → z.1.length ≤ 6 := fun z hz => by
    have := asc_len z.1 0 s hz.1 hz.2.1
    omega
  have q6 : q.2.1 ≤ 6 := by
    have e : q.2.1 = (fresh (cvL S.cov) (zAt zs q.2.2)).length := b.2.2.1
    have l : (fresh (cvL S.cov) (zAt zs q.2.2)).length ≤ (zAt zs q.2.2).1.length := List.length_filter_le _ _
    have := lz _ gz
    omega
  have sv := low_sh (p := q.1) b.2.2.2 q6
  have lq : q.2.1 = (fresh (cvL S.cov) (zAt zs q.2.2)).length := b.2.2.1
  have q0 := b.2.2.2
  have vq : q.1 * (60 / (q.2.1 : Int)) * (q.2.1 : Int) = 60 * q.1 := by
    have c : q.2.1 = 1 ∨ q.2.1 = 2 ∨ q.2.1 = 3 ∨ q.2.1 = 4 ∨ q.2.1 = 5 ∨ q.2.1 = 6 := by omega
    rcases c with c | c | c | c | c | c <;> rw [c] <;> simp <;> omega
  have v0 : 0 ≤ q.1 * (60 / (q.2.1 : Int)) ∧ q.1 * (60 / (q.2.1 : Int)) ≤ 3720 := by
    have c : q.2.1 = 1 ∨ q.2.1 = 2 ∨ q.2.1 = 3 ∨ q.2.1 = 4 ∨ q.2.1 = 5 ∨ q.2.1 = 6 := by omega
    rcases c with c | c | c | c | c | c <;> rw [c] <;> simp <;> omega
  have fm : ∀ e ∈ fresh (cvL S.cov) (zAt zs q.2.2), e ∈ (zAt zs q.2.2).1 ∧ e ∉ S.cov := fun e he => by
    obtain ⟨h1, h2⟩ := List.mem_filter.mp he
    have h3 : cvL S.cov e = false := by simpa using h2
    exact ⟨h1, of_decide_eq_false h3⟩
  have fin : ∀ e ∈ (zAt zs q.2.2).1, e ∈ S.cov ∨ e ∈ fresh (cvL S.cov) (zAt zs q.2.2) := fun e he => by
    by_cases c : e ∈ S.cov
    · exact .inl c
    · have c2 : cvL S.cov e = false := decide_eq_false c
      exact .inr (List.mem_filter.mpr ⟨he, by rw [c2]; rfl⟩)
  generalize hv : q.1 * (60 / (q.2.1 : Int)) = v at sv vq v0
  refine ⟨upN (fresh (cvL S.cov) (zAt zs q.2.2)) v N, ?_⟩
  have pq : priceAt zs (q.2.2 : Int) = q.1 := by
    have e : ((q.2.2 : Int)).toNat = q.2.2 := by omega
    unfold priceAt
    rw [e]
    exact b.2.1.symm
  have zq : zAt zs ((q.2.2 : Int)).toNat = zAt zs q.2.2 := by rw [show ((q.2.2 : Int)).toNat = q.2.2 by omega]
  unfold stp
  generalize fresh (cvL S.cov) (zAt zs q.2.2) = fr at *
  refine ⟨fun j x hx => ?_, fun e he => ?_, fun e => ?_, fun z hz => ?_, ?_, fun k hk x hx => ?_, ?_, fun x hx => ?_, ?_⟩
  · show Sh x (if (j : Int) ∈ fr then v else N (j : Int))
    by_cases jl : j < S.sh.length
    · have hx : (setAll _ fr S.sh).getD j none = some x := hx
      rw [setAll_get fr S.sh j jl fun e he => (f2 e he).1] at hx
      by_cases c : (j : Int) ∈ fr
      · rw [if_pos c] at hx ⊢
        cases hx
        exact sv
      · rw [if_neg c] at hx ⊢
        exact h.a j x hx
    · have hx : (setAll _ fr S.sh).getD j none = some x := hx
      rw [List.getD_eq_getElem?_getD, List.getElem?_eq_none (by rw [setAll_len]; omega)] at hx
      cases hx
  · have he : e ∉ S.cov ++ fr := he
    have c : e ∉ fr := fun z => he (List.mem_append.mpr (.inr z))
    show (if e ∈ fr then v else N e) = 0
    rw [if_neg c]
    exact h.b0 e fun z => he (List.mem_append.mpr (.inl z))
  · show 0 ≤ (if e ∈ fr then v else N e) ∧ (if e ∈ fr then v else N e) ≤ 3720
    split
    · exact v0
    · exact h.b1 e
  · obtain ⟨c, c1, c2⟩ := up_cnt (v := v) (fun e he => (fm e he).2) h.b0 z.1
    have hc := h.c z hz
    have l6 := lz z (hg z hz)
    obtain ⟨k, hk, ez⟩ := List.mem_iff_getElem.mp hz
    have za : zAt zs k = z := by unfold zAt; rw [getD_lt hk, ez]
    show isum (z.1.map (upN fr v N)) + z.2 * hN (z.1.filter fun e => !cvL (S.cov ++ fr) e).length ≤ _
    have hc : isum (z.1.map N) + z.2 * hN (z.1.filter fun e => !cvL S.cov e).length ≤ z.2 * hN z.1.length := hc
    have lu : (z.1.filter fun e => !cvL S.cov e).length ≤ z.1.length := List.length_filter_le _ _
    have mk := mn.2 k hk
    rw [za] at mk
    have mk : 0 < (z.1.filter fun e => !cvL S.cov e).length → q.1 * ((z.1.filter fun e => !cvL S.cov e).length : Int) ≤ z.2 * (q.2.1 : Int) := mk
    have p0 := (hg z hz).2.2.1
    rw [c1]
    generalize (z.1.filter fun e => !cvL S.cov e).length = u at c2 hc lu mk
    have e : (z.1.filter fun e => !cvL (S.cov ++ fr) e).length = u - c := by omega
    rw [e]
    have vu : v * (u : Int) ≤ 60 * z.2 := by
      by_cases u0 : 0 < u
      · have m := mk u0
        have a1 : v * (u : Int) * (q.2.1 : Int) = 60 * (q.1 * (u : Int)) := by
          have : v * (u : Int) * (q.2.1 : Int) = v * (q.2.1 : Int) * (u : Int) := by grind
          rw [this, vq]
          grind
        have a2 : 60 * z.2 * (q.2.1 : Int) = 60 * (z.2 * (q.2.1 : Int)) := by grind
        exact Int.le_of_mul_le_mul_right (by rw [a1, a2]; omega) (by omega : (0 : Int) < (q.2.1 : Int))
      · have : u = 0 := by omega
        subst this
        show v * 0 ≤ _
        omega
    have ft := fit (by omega : u ≤ 6) v0.1 vu c (by omega)
    omega
  · show isum ((S.cov ++ fr).map (upN fr v N)) = 60 * costOf zs (S.tk ++ [(q.2.2 : Int)])
    rw [List.map_append, isum_app, cost_app, pq]
    have e1 : isum (S.cov.map (upN fr v N)) = isum (S.cov.map N) := isum_same fun x hx => if_neg fun z => (fm x z).2 hx
    have e2 : isum (fr.map (upN fr v N)) = v * (fr.length : Int) := isum_const fun x hx => if_pos hx
    rw [e1, e2, h.d, ← lq, vq]
    omega
  · rcases List.mem_append.mp hk with z | z
    · exact List.mem_append.mpr (.inl (h.e1 k z x hx))
    · rw [List.mem_singleton.mp z, zq] at hx
      exact List.mem_append.mpr (fin x hx)
  · show (S.tk ++ [(q.2.2 : Int)]).Nodup
    rw [List.nodup_append]
    refine ⟨h.e2, List.nodup_cons.mpr ⟨by simp, List.nodup_nil⟩, fun a ha c hc e => ?_⟩
    rw [List.mem_singleton.mp hc] at e
    subst e
    have m := h.e1 _ ha
    rw [zq] at m
    have l0 : 0 < fr.length := by omega
    obtain ⟨x, hx⟩ := List.exists_mem_of_length_pos l0
    exact (fm x hx).2 (m x (fm x hx).1)
  · rcases List.mem_append.mp hx with z | z
    · obtain ⟨k, k1, k2⟩ := h.f x z
      exact ⟨k, List.mem_append.mpr (.inl k1), k2⟩
    · exact ⟨(q.2.2 : Int), List.mem_append.mpr (.inr (List.mem_singleton.mpr rfl)), by rw [zq]; exact (fm x z).1⟩
  · show (S.cov ++ fr).Nodup
    rw [List.nodup_append]
    exact ⟨h.n, f1, fun a ha c hc e => by subst e; exact (fm a hc).2 ha⟩
theorem iv2_run {s : Nat} {zs : List St} (hs : s ≤ 6) (hg : ∀ z ∈ zs, GS0 (s : Int) z) : ∀ (n : Nat) (S : Sg) (N : Int → Int), Inv s zs S → Iv2 zs S N → ∃ N', Iv2 zs (runQ zs n S) N'
  | 0, S, N, _, h => ⟨N, h⟩
  | n + 1, S, N, hi, h => by
    show ∃ N', Iv2 zs (runQ zs n (stepQ zs S)) N'
    cases hq : pk zs S with
    | none => rw [stepQ_n hq]; exact iv2_run hs hg n S N hi h
    | some q =>
      rw [stepQ_s hq]
      obtain ⟨N', h'⟩ := iv2_step hs hg hi h hq
      exact iv2_run hs hg n _ N' (step_inv (by omega) hg hi hq).1 h'
theorem iv2_start {s : Nat} {zs : List St} : Iv2 zs ⟨List.replicate s none, [], []⟩ (fun _ => 0) := by
  refine ⟨fun j x hx => ?_, fun _ _ => rfl, fun _ => ⟨Int.le_refl 0, by decide⟩, fun z hz => ?_, rfl, fun k hk => (by cases hk), List.nodup_nil, fun x hx => (by cases hx), List.nodup_nil⟩
  · have hx : (List.replicate s (none : Option (Int × Int))).getD j none = some x := hx
    rw [List.getD_eq_getElem?_getD, List.getElem?_replicate] at hx
    split at hx <;> cases hx
  · have e : (fresh (cvL []) z).length = z.1.length := by
      unfold fresh
      rw [List.filter_eq_self.mpr fun e _ => by show (!decide (e ∈ ([] : List Int))) = true; simp]
    have e2 : isum (z.1.map fun _ => (0 : Int)) = 0 * (z.1.length : Int) := isum_const fun _ _ => rfl
    show isum (z.1.map fun _ => (0 : Int)) + z.2 * hN (fresh (cvL []) z).length ≤ _
    rw [e, e2]
    omega
def val : Option (Int × Int) → Int × Int
  | none => (0, 1)
  | some x => x
theorem shs_dp {sh : Shs} (h : none ∉ sh) : shsD sh = dp (sh.map val) := by
  unfold dp
  rw [List.map_map]
  refine congrArg DV.lst (List.map_congr_left fun x hx => ?_)
  cases x with
  | none => exact absurd hx h
  | some y => rfl
/-- what the quick cover told is due -/
theorem told_due {s : Nat} {zs : List St} (s1 : 1 ≤ s) (hs : s ≤ 6) (l1 : 1 ≤ zs.length) (hl : zs.length ≤ 7) (hg : ∀ z ∈ zs, GS0 (s : Int) z) (hc : (covR s zs).cov.length = s) : none ∉ (covR s zs).sh ∧ Dt s zs (covR s zs).tk ((covR s zs).sh.map val) ∧ (∀ x ∈ (covR s zs).sh.map val, ∃ N : Int, Sh x N ∧ N.natAbs ≤ 3720) ∧ dueB s zs (covR s zs).tk ((covR s zs).sh.map val) = true := by
  have iv := covR_inv (by omega) hg
  obtain ⟨N, h⟩ := iv2_run hs hg s _ _ (start_inv (s := s) (zs := zs)) (iv2_start (s := s) (zs := zs))
  have h : Iv2 zs (covR s zs) N := h
  have cl := iv.le
  have tl := iv.tl
  generalize covR s zs = R at *
  have nn : none ∉ R.sh := fun z => by
    have := (cnt_lt R.sh).mpr z
    have := iv.c
    have := iv.l
    omega
  have shN : ∀ e : Int, 0 ≤ e → e < (s : Int) → Sh (shAt (R.sh.map val) e) (N e) := fun e e0 es => by
    have le : e.toNat < R.sh.length := by rw [iv.l]; omega
    have a : shAt (R.sh.map val) e = val R.sh[e.toNat] := by
      unfold shAt
      rw [getD_lt (by rw [List.length_map]; exact le), List.getElem_map]
    rw [a]
    cases hx : R.sh[e.toNat] with
    | none => exact absurd (hx ▸ List.getElem_mem le) nn
    | some y =>
      have k := h.a e.toNat y (by rw [getD_lt le, hx])
      rw [show ((e.toNat : Nat) : Int) = e by omega] at k
      exact k
  have mem : ∀ x ∈ R.sh.map val, ∃ N : Int, Sh x N ∧ N.natAbs ≤ 3720 := fun x hx => by
    obtain ⟨i, hi, e⟩ := List.mem_iff_getElem.mp hx
    have hi2 : i < R.sh.length := by rw [List.length_map] at hi; exact hi
    have k := shN (i : Int) (by omega) (by rw [← iv.l]; omega)
    have a : shAt (R.sh.map val) (i : Int) = x := by
      unfold shAt
      rw [show ((i : Int)).toNat = i by omega, getD_lt hi, e]
    rw [a] at k
    have := h.b1 (i : Int)
    exact ⟨_, k, by omega⟩
  have D : Dt s zs R.tk (R.sh.map val) := ⟨s1, hs, l1, hl, hg, by omega, by rw [List.length_map, iv.l]; omega, fun x hx => by
    obtain ⟨M, m1, m2⟩ := mem x hx
    exact ⟨M, m1, by omega⟩⟩
  refine ⟨nn, D, mem, ?_⟩
  have sl : (R.sh.map val).length = s := by rw [List.length_map]; exact iv.l
  have vN : ∀ e : Int, 0 ≤ e → e < (s : Int) → NN (R.sh.map val) e = N e := fun e e0 es => rp_val (shN e e0 es).1
  have all : ∀ e : Int, 0 ≤ e → e < (s : Int) → e ∈ R.cov := fun e e0 es => by
    have k := iv.v e.toNat (by omega)
    rw [show ((e.toNat : Nat) : Int) = e by omega] at k
    have le : e.toNat < R.sh.length := by rw [iv.l]; omega
    rw [getD_lt le] at k
    cases hx : R.sh[e.toNat] with
    | none => exact absurd (hx ▸ List.getElem_mem le) nn
    | some y =>
      rw [hx] at k
      exact of_decide_eq_true k.symm
  have cov_in : ∀ x ∈ R.cov, 0 ≤ x ∧ x < (s : Int) := fun x hx => by
    obtain ⟨k, k1, k2⟩ := h.f x hx
    have r := iv.t k k1
    have m : zAt zs k.toNat ∈ zs := by unfold zAt; rw [getD_lt (by omega)]; exact List.getElem_mem _
    exact (hg _ m).2.1 x k2
  unfold dueB
  have i1 : R.tk.all (inR zs) = true := List.all_eq_true.mpr fun k hk => by
    have r := iv.t k hk
    unfold inR
    rw [decide_eq_true r.1, decide_eq_true r.2]
    rfl
  rw [if_neg (by rw [decide_eq_true sl, decide_eq_true h.e2, i1]; simp)]
  unfold tailB
  have n1 : ¬ (intL s).any (bE zs R.tk (R.sh.map val)) = true := fun z => by
    obtain ⟨e, h1, h2⟩ := List.any_eq_true.mp z
    have r := mem_ints.mp h1
    have k := (shN e r.1 r.2).1
    obtain ⟨kk, k1, k2⟩ := h.f e (all e r.1 r.2)
    unfold bE at h2
    rw [List.any_eq_true.mpr ⟨kk, k1, decide_eq_true k2⟩, Bool.not_true, Bool.or_false] at h2
    have h2 := of_decide_eq_true h2
    have l := Int.mul_lt_mul_of_pos_right h2 (by decide : (0 : Int) < 60)
    rw [k.1] at l
    have := Int.mul_nonneg (h.b1 e).1 (Int.le_of_lt k.2)
    omega
  have n2 : ¬ zs.any (overB (R.sh.map val)) = true := fun z => by
    obtain ⟨y, h1, h2⟩ := List.any_eq_true.mp z
    have h2 := of_decide_eq_true h2
    have r := (D.rhs sl h1).1
    have l := lhs_rp (z := y) (D.len h1)
    have k := (rp_lt (by decide) l r).mp h2
    have e : isum (y.1.map (NN (R.sh.map val))) = isum (y.1.map N) := isum_same fun x hx => vN x ((hg y h1).2.1 x hx).1 ((hg y h1).2.1 x hx).2
    rw [e] at k
    have c := h.c y h1
    have := Int.mul_nonneg (hg y h1).2.2.1 (hN_nn (fresh (cvL R.cov) y).length)
    have cm : y.2 * hN y.1.length = hN y.1.length * y.2 := Int.mul_comm _ _
    omega
  rw [if_neg n1, if_neg n2]
  refine decide_eq_true ?_
  have as := asum_sh D sl
  have e1 : isum ((intL s).map (NN (R.sh.map val))) = isum ((intL s).map N) := isum_same fun x hx => vN x (mem_ints.mp hx).1 (mem_ints.mp hx).2
  have le1 := sub_sum (f := N) (intL s) R.cov (ints_asc.imp fun h => by omega) (fun x hx => all x (mem_ints.mp hx).1 (mem_ints.mp hx).2) fun x _ => (h.b1 x).1
  have le2 := sub_sum (f := N) R.cov (intL s) h.n (fun x hx => mem_ints.mpr (cov_in x hx)) fun x _ => (h.b1 x).1
  have t : isum ((intL s).map (NN (R.sh.map val))) = 60 * costOf zs R.tk := by
    have := h.d
    omega
  rw [t] at as
  exact pair_one as.1 as.2
end M
end

/-! text K7 -/
section
set_option maxRecDepth 100000
set_option maxHeartbeats 4000000
namespace M
open PySem DL
abbrev FF (zs : List St) : Int × Int := asum (0, 1) (parts (mxl zs))
def bnd (zs : List St) (sh : Prs) : Int × Int := if FF zs = (0, 1) then (0, 1) else low ((asum (0, 1) sh).1 * (FF zs).2) ((asum (0, 1) sh).2 * (FF zs).1)
theorem ff_pos {zs : List St} (h : mxl zs ≤ 6) (hn : ¬ FF zs = (0, 1)) : 0 < (FF zs).1 := by
  have k := parts_rp h
  have r := parts_red h
  have hh := hN_nn (mxl zs)
  unfold FF at hn ⊢
  generalize asum (0, 1) (parts (mxl zs)) = F at k r hn
  obtain ⟨k1, k2⟩ := k
  have m := Int.mul_nonneg hh (Int.le_of_lt k2)
  by_cases c : F.1 = 0
  · rw [c] at r
    unfold gi at r
    simp at r
    refine absurd (Prod.ext c ?_) hn
    show F.2 = 1
    omega
  · omega
section
variable {s : Nat} {zs : List St} {tk : List Int} {sh : Prs}
theorem asum_gd (h : Dt s zs tk sh) (hl : sh.length = s) : Gd (asum (0, 1) sh) := by
  have k := asum_sh h hl
  have s6 := h.s6
  have b := isum_le (f := NN sh) (b := 20000) (xs := intL s) fun e he => (h.nn (by have := mem_ints.mp he; omega)).2
  rw [ints_len] at b
  have b2 := Nat.mul_le_mul_left 20000 s6
  have sm := Sh.sm (x := asum (0, 1) sh) k
  have e31 : (1000000 : Nat) < 2 ^ 31 := by decide
  exact ⟨by omega, by omega, sm.2.2⟩
theorem cb_ok (h : Dt s zs tk sh) (hl : sh.length = s) : m_cover_bound [.int (s : Int), ssD zs, dp sh] = .ok (pr (bnd zs sh)) := by
  have st : startD 4 [.int (s : Int), ssD zs, dp sh] = [some (.int (s : Int)), some (ssD zs), some (dp sh), none] := rfl
  have s0 : (gDrop (gPure (gCB m_check_sets (aCons (gVar 0) (aCons (gVar 1) aNil))))) [some (.int (s : Int)), some (ssD zs), some (dp sh), none] = .nx [some (.int (s : Int)), some (ssD zs), some (dp sh), none] := drop_e ((cb2 rfl rfl).trans (check_good (by have := h.s1; omega) (by have := h.s6; omega) h.l1 (by have := h.l7; omega) h.g))
  have s1 : (gAsg (gPure (gCB m_cover_factor (aCons (gVar 0) (aCons (gVar 1) aNil)))) (gtName 3)) [some (.int (s : Int)), some (ssD zs), some (dp sh), none] = .nx [some (.int (s : Int)), some (ssD zs), some (dp sh), some (pr (FF zs))] := set_e ((cb2 rfl rfl).trans (factor_ok h.s1 (by have := h.s6; omega) (by have := h.l7; omega) h.l1 h.g))
  have t : (gB (gBin dEq (gVar 3) (gC (.tup [(.int 0), (.int 1)])))) [some (.int (s : Int)), some (ssD zs), some (dp sh), some (pr (FF zs))] = .ok (decide (FF zs = (0, 1))) := b_e ((bin_e rfl rfl).trans (dEq_pr (x := FF zs) (y := (0, 1))))
  unfold m_cover_bound runB b_cover_bound bnd
  rw [st, ev_seq s0, ev_seq s1]
  by_cases c : FF zs = (0, 1)
  · rw [decide_eq_true c] at t
    rw [if_pos c, ev_stop t (ret_e rfl)]
    rfl
  · rw [decide_eq_false c] at t
    have g := asum_gd h hl
    have f := part_gd (mxl6 h)
    have fp := ff_pos (mxl6 h) c
    have n0 : (asum (0, 1) sh).2 * (FF zs).1 ≠ 0 := Int.mul_ne_zero (by have := g.2.2; omega) (by omega)
    have a : ((asum (0, 1) sh).2 * (FF zs).1).natAbs < 2 ^ 1999 := by
      rw [Int.natAbs_mul]
      have a : (asum (0, 1) sh).2.natAbs * (FF zs).1.natAbs < 2 ^ 31 * 2 ^ 31 := Nat.mul_lt_mul'' g.2.1 f.1
      exact Nat.lt_of_lt_of_le (Nat.lt_of_lt_of_le a (by decide : 2 ^ 31 * 2 ^ 31 ≤ 2 ^ 62)) (Nat.pow_le_pow_right (by decide) (by decide))
    rw [if_neg c, ev_skip t, ret_e ((cb2 ((cb1 rfl).trans (added_ok h.gd h.sl).1) rfl).trans ((over_e g.sm f.sm).trans (fraction_ok n0 (den9 a))))]
    rfl
theorem bnd_low (h : Dt s zs tk sh) (hl : sh.length = s) (c : ¬ FF zs = (0, 1)) : m__law_lowest [.int ((asum (0, 1) sh).1 * (FF zs).2), .int ((asum (0, 1) sh).2 * (FF zs).1)] = .ok (pr (bnd zs sh)) := by
  have g := asum_gd h hl
  have f := part_gd (mxl6 h)
  have fp := ff_pos (mxl6 h) c
  have n0 : (asum (0, 1) sh).2 * (FF zs).1 ≠ 0 := Int.mul_ne_zero (by have := g.2.2; omega) (by omega)
  unfold bnd
  rw [if_neg c]
  refine lowest_ok n0 ?_
  rw [Int.natAbs_mul]
  have a : (asum (0, 1) sh).2.natAbs * (FF zs).1.natAbs < 2 ^ 31 * 2 ^ 31 := Nat.mul_lt_mul'' g.2.1 f.1
  exact Nat.lt_of_lt_of_le (Nat.lt_of_lt_of_le a (by decide : 2 ^ 31 * 2 ^ 31 ≤ 2 ^ 62)) (Nat.pow_le_pow_right (by decide) (by decide))
theorem bnd_sm (h : Dt s zs tk sh) (hl : sh.length = s) : Sm (bnd zs sh) := by
  unfold bnd
  split
  · exact ⟨by show (0 : Int).natAbs < _; exact Nat.two_pow_pos _, Nat.lt_of_lt_of_le (by decide : (1 : Int).natAbs < 2 ^ 1) (Nat.pow_le_pow_right (by decide) (by decide))⟩
  · rename_i c
    have g := asum_gd h hl
    have f := part_gd (mxl6 h)
    have fp := ff_pos (mxl6 h) c
    have n0 : (asum (0, 1) sh).2 * (FF zs).1 ≠ 0 := Int.mul_ne_zero (by have := g.2.2; omega) (by omega)
    have l := low_le (p := (asum (0, 1) sh).1 * (FF zs).2) n0
    rw [Int.natAbs_mul, Int.natAbs_mul] at l
    have a : (asum (0, 1) sh).2.natAbs * (FF zs).1.natAbs < 2 ^ 31 * 2 ^ 31 := Nat.mul_lt_mul'' g.2.1 f.1
    have a2 : (asum (0, 1) sh).1.natAbs * (FF zs).2.natAbs < 2 ^ 31 * 2 ^ 31 := Nat.mul_lt_mul'' g.1 f.2.1
    have e : 2 ^ 31 * 2 ^ 31 ≤ 2 ^ 62 := by decide
    exact ⟨Nat.lt_of_lt_of_le (Nat.lt_of_le_of_lt l.1 a2) (Nat.le_trans e (Nat.pow_le_pow_right (by decide) (by decide))), Nat.lt_of_lt_of_le (Nat.lt_of_le_of_lt l.2 a) (Nat.le_trans e (Nat.pow_le_pow_right (by decide) (by decide)))⟩
/-- what is due tells of the least price -/
theorem due_least (h : Dt s zs tk sh) (d : dueB s zs tk sh = true) : ∃ l : Int, leastV s zs = some l ∧ 0 ≤ l ∧ l ≤ 434 ∧ 60 * costOf zs tk ≤ hN (mxl zs) * l ∧ asum (0, 1) sh = (costOf zs tk, 1) ∧ ∀ k ∈ tk, 0 ≤ k ∧ k < (zs.length : Int) := by
  have f := due_facts h d
  cases hl : leastV s zs with
  | none =>
    have c := least_none h.l1 h.l7 hl
    have c2 : covB s zs = true := List.all_eq_true.mpr fun e he => by
      have r := mem_ints.mp he
      obtain ⟨k, k1, k2⟩ := (f.nn e r.1 r.2).2
      have kr := f.r k k1
      refine List.any_eq_true.mpr ⟨zAt zs k.toNat, ?_, decide_eq_true k2⟩
      unfold zAt
      rw [getD_lt (by omega)]
      exact List.getElem_mem _
    rw [c2] at c
    cases c
  | some l =>
    obtain ⟨ch, c1, c2, c3, c4⟩ := best_some (i := 2 ^ zs.length) hl
    have b := prc_bd (ch := ch) fun z hz => (h.g z (c1 z hz)).2.2
    have l7 := h.l7
    have w := weak h f c1 c3
    rw [c4]
    exact ⟨_, rfl, b.1, by omega, w, f.eq, f.r⟩
theorem tru_b {x : Bool} {g : GE} {ρ : EnvD} (h : g ρ = .ok (.bl x)) : gTru g ρ = .ok x := by
  unfold gTru
  rw [h]
  cases x <;> rfl
theorem gd_int {l : Int} (h0 : 0 ≤ l) (h : l ≤ 100000) : Gd (l, 1) := by
  have e31 : (1000000 : Nat) < 2 ^ 31 := by decide
  exact ⟨by show l.natAbs < _; omega, by show (1 : Int).natAbs < _; omega, by show (0 : Int) < 1; decide⟩
theorem cost_bd (hg : ∀ z ∈ zs, GS0 (s : Int) z) (ht : tk.length ≤ 100) (hr : ∀ k ∈ tk, 0 ≤ k ∧ k < (zs.length : Int)) : 0 ≤ costOf zs tk ∧ costOf zs tk ≤ 62 * (tk.length : Int) := by
  clear ht
  induction tk with
  | nil => exact ⟨Int.le_refl 0, Int.le_refl 0⟩
  | cons k tk ih =>
    have r := hr k List.mem_cons_self
    have ih := ih fun x hx => hr x (List.mem_cons_of_mem _ hx)
    have e : costOf zs (k :: tk) = priceAt zs k + costOf zs tk := rfl
    have p : 0 ≤ priceAt zs k ∧ priceAt zs k ≤ 62 := by
      unfold priceAt zAt
      rw [getD_lt (by omega)]
      exact (hg _ (List.getElem_mem _)).2.2
    rw [e, List.length_cons]
    omega
end
/-! one turn -/
section
variable {ns xs : List Int} {s i : Nat} {zs : List St} {told t10 t12 t13 t14 t15 t16 t17 t19 t20 : Option DV} {tk0 tk : List Int} {sh0 sh : Prs}
def CI (s : Nat) (tk : List Int) (sh : Prs) (j : Nat) : Prop := tk.length ≤ 8 + j ∧ TkB tk ∧ sh.length ≤ s + 1 ∧ ShB sh (3720 * (1 + j))
theorem pad_e {ρ : EnvD} (hs : s ≤ 6) (sl : sh.length ≤ s + 1) (h14 : lk ρ 14 = .ok (dp sh)) (h2 : lk ρ 2 = .ok (.int (s : Int))) : (gSl (gBin dAdd (gVar 14) (gBin dRep (eLst (aCons (eTup (aCons (gC (.int 0)) (aCons (gC (.int 1)) aNil))) aNil)) (gVar 2))) gNoPart (gPart (gVar 2))) ρ = .ok (dp ((sh ++ List.replicate s (0, 1)).take s)) := by
  have a : gBin dRep (eLst (aCons (eTup (aCons (gC (.int 0)) (aCons (gC (.int 1)) aNil))) aNil)) (gVar 2) ρ = .ok (dp (List.replicate s (0, 1))) := (bin_e (one_e (g := pr) (x := (0, 1)) rfl) h2).trans (rep_g rfl (by omega))
  have g14 : gVar 14 ρ = .ok (dp sh) := h14
  have b := slT_e (g := pr) (xs := sh ++ List.replicate s (0, 1)) (b := gVar 2) (ρ := ρ) ((bin_e g14 a).trans (cat_e (g := pr) (xs := sh) (ys := List.replicate s (0, 1)) (by rw [List.length_replicate]; omega))) h2 (by omega)
  rw [show ((s : Nat) : Int).toNat = s by omega] at b
  exact b
theorem pad_ok (sh : Prs) {b : Nat} (hb : ShB sh b) : ((sh ++ List.replicate s (0, 1)).take s).length = s ∧ ShB ((sh ++ List.replicate s (0, 1)).take s) b := by
  refine ⟨by rw [List.length_take, List.length_append, List.length_replicate]; omega, fun x hx => ?_⟩
  rcases List.mem_append.mp (List.mem_of_mem_take hx) with z | z
  · exact hb x z
  · rw [(List.mem_replicate.mp z).2]
    exact ⟨0, ⟨⟨by decide, by decide⟩, by decide⟩, Nat.zero_le _⟩
theorem cb6 {a b c d e f : GE} {o : OpA} {ρ : EnvD} {x1 x2 x3 x4 x5 x6 : DV} (h1 : a ρ = .ok x1) (h2 : b ρ = .ok x2) (h3 : c ρ = .ok x3) (h4 : d ρ = .ok x4) (h5 : e ρ = .ok x5) (h6 : f ρ = .ok x6) : gCB o (aCons a (aCons b (aCons c (aCons d (aCons e (aCons f aNil)))))) ρ = o [x1, x2, x3, x4, x5, x6] := by
  rw [ev_cb, ev_cons, h1, ev_cons, h2, ev_cons, h3, ev_cons, h4, ev_cons, h5, ev_cons, h6]
  rfl
theorem min_e {i j : Int} : dMin2 [.int i, .int j] = .ok (.int (if j < i then j else i)) := rfl
def cB : GS := (gAsg (gPure (gCB m__law_changed (aCons (gVar 1) (aCons (gBin dAdd (gBin dAdd (gC (.int 70)) (gBin dMul (gC (.int 9)) (gVar 12))) (gBin dMul (gC (.int 5)) (gVar 15))) (aCons (gVar 2) (aCons (gVar 3) (aCons (gVar 13) (aCons (gSl (gBin dAdd (gVar 14) (gBin dRep (eLst (aCons (eTup (aCons (gC (.int 0)) (aCons (gC (.int 1)) aNil))) aNil)) (gVar 2))) gNoPart (gPart (gVar 2))) aNil)))))))) (gtTup [13, 14]))
theorem c_step {j : Nat} (hx : xs.length = 170) (hi : i < 10) (hj : j < 2) (s1 : 1 ≤ s) (hs : s ≤ 6) (l1 : 1 ≤ zs.length) (hl : zs.length ≤ 7) (hg : ∀ z ∈ zs, GS0 (s : Int) z) (h : CI s tk sh j) : ∃ (tk' : List Int) (sh' : Prs), cB [some (di ns), some (di xs), some (.int (s : Int)), some (ssD zs), some (pr (FF zs)), none, none, told, some (di tk0), some (dp sh0), t10, some (oI (leastV s zs)), some (.int ((0 : Int) + (i : Int))), some (di tk), some (dp sh), some (.int ((0 : Int) + (j : Int))), t16, t17, none, t19, t20] = .nx [some (di ns), some (di xs), some (.int (s : Int)), some (ssD zs), some (pr (FF zs)), none, none, told, some (di tk0), some (dp sh0), t10, some (oI (leastV s zs)), some (.int ((0 : Int) + (i : Int))), some (di tk'), some (dp sh'), some (.int ((0 : Int) + (j : Int))), t16, t17, none, t19, t20] ∧ CI s tk' sh' (j + 1) := by
  obtain ⟨h1, h2, h3, h4⟩ := h
  obtain ⟨p1, p2⟩ := pad_ok (s := s) sh h4
  have m1 : mulOk 9 ((0 : Int) + (i : Int)) = true := mulT (by decide)
  have m2 : mulOk 5 ((0 : Int) + (j : Int)) = true := mulT (by decide)
  obtain ⟨tk', sh', e, c1, c2, c3, c4⟩ := changed_ok (a := 70 + 9 * ((0 : Int) + (i : Int)) + 5 * ((0 : Int) + (j : Int))) hx (by omega) s1 hs l1 hl hg (by omega : tk.length ≤ 90) h2 p1 p2 (by have := Nat.mul_le_mul_left 3720 (by omega : 1 + j ≤ 2); omega)
  refine ⟨tk', sh', asg2 ((cb6 rfl ((bin_e ((bin_e rfl ((bin_e rfl rfl).trans (dMul_i m1))).trans dAdd_i) ((bin_e rfl rfl).trans (dMul_i m2))).trans dAdd_i) rfl rfl rfl (pad_e hs h3 rfl rfl)).trans e) rfl, by omega, c2, c3, c4.mono (by omega)⟩
theorem c_loop (hx : xs.length = 170) (hi : i < 10) (s1 : 1 ≤ s) (hs : s ≤ 6) (l1 : 1 ≤ zs.length) (hl : zs.length ≤ 7) (hg : ∀ z ∈ zs, GS0 (s : Int) z) (h : CI s tk sh 0) : ∃ (tk' : List Int) (sh' : Prs) (u15 : Option DV), gFor (gRng1 (aCons (gCB dMin2 (aCons (gVar 12) (aCons (gC (.int 2)) aNil))) aNil)) (gtName 15) cB [some (di ns), some (di xs), some (.int (s : Int)), some (ssD zs), some (pr (FF zs)), none, none, told, some (di tk0), some (dp sh0), t10, some (oI (leastV s zs)), some (.int ((0 : Int) + (i : Int))), some (di tk), some (dp sh), t15, t16, t17, none, t19, t20] = .nx [some (di ns), some (di xs), some (.int (s : Int)), some (ssD zs), some (pr (FF zs)), none, none, told, some (di tk0), some (dp sh0), t10, some (oI (leastV s zs)), some (.int ((0 : Int) + (i : Int))), some (di tk'), some (dp sh'), u15, t16, t17, none, t19, t20] ∧ CI s tk' sh' 2 := by
  obtain ⟨n, hn, en⟩ : ∃ n : Nat, n ≤ 2 ∧ (if (2 : Int) < ((0 : Int) + (i : Int)) then (2 : Int) else ((0 : Int) + (i : Int))) = (n : Int) := by
    split
    · exact ⟨2, by omega, rfl⟩
    · exact ⟨i, by omega, by omega⟩
  obtain ⟨ρ', f1, tk', sh', u15, e1, ci⟩ := forG_rngB (tg := gtName 15) (b := cB) n (fun j ρ => ∃ (tk : List Int) (sh : Prs) (t15 : Option DV), ρ = [some (di ns), some (di xs), some (.int (s : Int)), some (ssD zs), some (pr (FF zs)), none, none, told, some (di tk0), some (dp sh0), t10, some (oI (leastV s zs)), some (.int ((0 : Int) + (i : Int))), some (di tk), some (dp sh), t15, t16, t17, none, t19, t20] ∧ CI s tk sh j) (fun j ρ hj h => by
    obtain ⟨tk, sh, t15, rfl, ci⟩ := h
    obtain ⟨tk', sh', k, ci'⟩ := c_step (ns := ns) (told := told) (t10 := t10) (t16 := t16) (t17 := t17) (t19 := t19) (t20 := t20) (tk0 := tk0) (sh0 := sh0) hx hi (by omega : j < 2) s1 hs l1 hl hg ci
    exact ⟨_, _, rfl, k, _, _, _, rfl, ci'⟩) n 0 [some (di ns), some (di xs), some (.int (s : Int)), some (ssD zs), some (pr (FF zs)), none, none, told, some (di tk0), some (dp sh0), t10, some (oI (leastV s zs)), some (.int ((0 : Int) + (i : Int))), some (di tk), some (dp sh), t15, t16, t17, none, t19, t20] (by omega) ⟨_, _, _, rfl, h⟩
  refine ⟨tk', sh', u15, ?_, ?_⟩
  · rw [ev_for (rng1_e (n := n) ((cb2 rfl rfl).trans (by rw [← en]; exact min_e)) rfl (by omega)) (by rw [rngD_eq]; exact f1), e1]
  · rw [Nat.zero_add] at ci
    obtain ⟨c1, c2, c3, c4⟩ := ci
    exact ⟨by omega, c2, c3, c4.mono (by have := Nat.mul_le_mul_left 3720 (by omega : 1 + n ≤ 1 + 2); omega)⟩
theorem two_shw (h1 : tk.length ≤ 12) (h2 : TkB tk) (h3 : sh.length ≤ 7) (h4 : ShB sh 16000) : SH.Shw 3 1000 (.tup [di tk, dp sh]) := by
  refine (SH.tup (k := 2) (w := 400) (ds := [di tk, dp sh]) fun d hd => ?_).mono (Nat.le_refl _) (by show (400 + 1) * 2 ≤ 1000; decide)
  have hd : d = di tk ∨ d = dp sh := by simpa only [List.mem_cons, List.not_mem_nil, or_false] using hd
  rcases hd with hd | hd <;> subst hd
  · exact (di_shw fun x hx => by have := h2 x hx; omega).mono (by decide) (by omega)
  · refine (SH.map (k := 1) (w := 52) (g := pr) fun x hx => ?_).mono (by decide) (by have := Nat.mul_le_mul_left 53 h3; omega)
    obtain ⟨N, n1, n2⟩ := h4 x hx
    have sm := n1.sm
    refine (SH.tup (k := 0) (w := 25) (ds := [.int x.1, .int x.2]) fun d hd => ?_).mono (Nat.le_refl _) (by show (25 + 1) * 2 ≤ 52; decide)
    have hd : d = .int x.1 ∨ d = .int x.2 := by simpa only [List.mem_cons, List.not_mem_nil, or_false] using hd
    rcases hd with hd | hd <;> subst hd
    · exact SH.int (by omega)
    · exact SH.int (by omega)
theorem t_six (h : Dt s zs tk sh) : ∃ u10, gIfS (gTru (gVar 17)) (gSeq (gAsg (gPure (gCB dSum (aCons (gLc (gSeqI (gVar 13)) (gtName 18) gYes (gBin dIx (gBin dIx (gVar 3) (gVar 18)) (gC (.int 1))) [18]) aNil))) (gtName 10)) (gIfS (gOr (gB (gBin dIsN (gVar 11) (gC .non))) (gB (gCB m__law_less (aCons (gCB m__law_times (aCons (gVar 4) (aCons (eTup (aCons (gVar 11) (aCons (gC (.int 1)) aNil))) aNil))) (aCons (eTup (aCons (gVar 10) (aCons (gC (.int 1)) aNil))) aNil))))) (gRet (gPure (gC (.bl false)))) gNext)) gNext [some (di ns), some (di xs), some (.int (s : Int)), some (ssD zs), some (pr (FF zs)), none, none, told, some (di tk0), some (dp sh0), t10, some (oI (leastV s zs)), t12, some (di tk), some (dp sh), t15, t16, some (.bl (dueB s zs tk sh)), none, t19, t20] = .nx [some (di ns), some (di xs), some (.int (s : Int)), some (ssD zs), some (pr (FF zs)), none, none, told, some (di tk0), some (dp sh0), u10, some (oI (leastV s zs)), t12, some (di tk), some (dp sh), t15, t16, some (.bl (dueB s zs tk sh)), none, t19, t20] := by
  have tt : (gTru (gVar 17)) [some (di ns), some (di xs), some (.int (s : Int)), some (ssD zs), some (pr (FF zs)), none, none, told, some (di tk0), some (dp sh0), t10, some (oI (leastV s zs)), t12, some (di tk), some (dp sh), t15, t16, some (.bl (dueB s zs tk sh)), none, t19, t20] = .ok (dueB s zs tk sh) := tru_b rfl
  rw [ev_ifS tt]
  cases d : dueB s zs tk sh with
  | false => exact ⟨_, rfl⟩
  | true =>
    rw [if_pos rfl]
    obtain ⟨l, hl, l0, l434, w, eq, hr⟩ := due_least h d
    have tl := h.tl
    have cb := cost_bd h.g tl hr
    rw [hl]
    have sm := cost_e (zs := zs) (tk := tk) (ρ := [some (di ns), some (di xs), some (.int (s : Int)), some (ssD zs), some (pr (FF zs)), none, none, told, some (di tk0), some (dp sh0), t10, some (oI (some l)), t12, some (di tk), some (dp sh), t15, t16, some (.bl true), none, t19, t20]) (g1 := gVar 3) (k := 18) (i := 13) (by omega) hr rfl (fun _ => rfl) fun _ => rfl
    have m6 := mxl6 h
    have fr : Rp 60 (low ((FF zs).1 * l) ((FF zs).2 * 1)) (hN (mxl zs) * l) := fac_rp m6 (l := l)
    have p2 : 0 < (FF zs).2 := (parts_rp m6).2
    have fg : gi (low ((FF zs).1 * l) ((FF zs).2 * 1)).1 (low ((FF zs).1 * l) ((FF zs).2 * 1)).2 = 1 := gi_low (by omega)
    have fsm := Sh.sm ⟨fr, fg⟩
    have hb : hN (mxl zs) * l ≤ 147 * 434 := Int.mul_le_mul (hN_le m6) l434 l0 (by decide)
    have hb0 := Int.mul_nonneg (hN_nn (mxl zs)) l0
    have e31 : (100000 : Nat) < 2 ^ 31 := by decide
    have fgd : Gd (low ((FF zs).1 * l) ((FF zs).2 * 1)) := ⟨by omega, by omega, fsm.2.2⟩
    have nl : decide ((low ((FF zs).1 * l) ((FF zs).2 * 1)).1 * 1 < costOf zs tk * (low ((FF zs).1 * l) ((FF zs).2 * 1)).2) = false := decide_eq_false fun z => by
      have k := (rp_lt (by decide) fr (sh_int (p := costOf zs tk)).1).mp z
      omega
    have tc : (gOr (gB (gBin dIsN (gVar 11) (gC .non))) (gB (gCB m__law_less (aCons (gCB m__law_times (aCons (gVar 4) (aCons (eTup (aCons (gVar 11) (aCons (gC (.int 1)) aNil))) aNil))) (aCons (eTup (aCons (gVar 10) (aCons (gC (.int 1)) aNil))) aNil))))) [some (di ns), some (di xs), some (.int (s : Int)), some (ssD zs), some (pr (FF zs)), none, none, told, some (di tk0), some (dp sh0), some (.int (costOf zs tk)), some (oI (some l)), t12, some (di tk), some (dp sh), t15, t16, some (.bl true), none, t19, t20] = .ok false := by
      refine (or_f (y := false) (b_e (z := false) ((bin_e rfl rfl).trans rfl)) (b_e ((cb2 ((cb2 rfl (tup2 rfl rfl)).trans (times_ok (part_gd m6) (gd_int l0 (by omega))).2) (tup2 rfl rfl)).trans ((lless_e (y := (costOf zs tk, 1)) fgd.sm (gd_int cb.1 (by omega)).sm).trans ?_))))
      exact congrArg (fun z => Rs.ok (DV.bl z)) nl
    exact ⟨_, (ev_seq (set_e sm)).trans ((ev_ifS tc).trans rfl)⟩
theorem t_seven (h : Dt s zs tk sh) : ∃ u19 u20, gIfS (gB (gBin dEq (gCB dLen (aCons (gVar 14) aNil)) (gVar 2))) (gSeq (gAsg (gPure (gCB m__law_added (aCons (gVar 14) aNil))) (gtName 19)) (gSeq (gAsg (gPure (eTup (aCons (gC (.int 0)) (aCons (gC (.int 1)) aNil)))) (gtName 20)) (gSeq (gIfS (gB (gBin dNe (gVar 4) (eTup (aCons (gC (.int 0)) (aCons (gC (.int 1)) aNil))))) (gAsg (gPure (gCB m__law_lowest (aCons (gBin dMul (gBin dIx (gVar 19) (gC (.int 0))) (gBin dIx (gVar 4) (gC (.int 1)))) (aCons (gBin dMul (gBin dIx (gVar 19) (gC (.int 1))) (gBin dIx (gVar 4) (gC (.int 0)))) aNil)))) (gtName 20)) gNext) (gIfS (gOr (gB (gBin dNe (gCB m_cover_bound (aCons (gVar 2) (aCons (gVar 3) (aCons (gVar 14) aNil)))) (gVar 20))) (gAnd (gTru (gVar 17)) (gB (gCB m__law_less (aCons (eTup (aCons (gVar 11) (aCons (gC (.int 1)) aNil))) (aCons (gVar 20) aNil)))))) (gRet (gPure (gC (.bl false)))) gNext)))) gNext [some (di ns), some (di xs), some (.int (s : Int)), some (ssD zs), some (pr (FF zs)), none, none, told, some (di tk0), some (dp sh0), t10, some (oI (leastV s zs)), t12, some (di tk), some (dp sh), t15, t16, some (.bl (dueB s zs tk sh)), none, t19, t20] = .nx [some (di ns), some (di xs), some (.int (s : Int)), some (ssD zs), some (pr (FF zs)), none, none, told, some (di tk0), some (dp sh0), t10, some (oI (leastV s zs)), t12, some (di tk), some (dp sh), t15, t16, some (.bl (dueB s zs tk sh)), none, u19, u20] := by
  have tt : (gB (gBin dEq (gCB dLen (aCons (gVar 14) aNil)) (gVar 2))) [some (di ns), some (di xs), some (.int (s : Int)), some (ssD zs), some (pr (FF zs)), none, none, told, some (di tk0), some (dp sh0), t10, some (oI (leastV s zs)), t12, some (di tk), some (dp sh), t15, t16, some (.bl (dueB s zs tk sh)), none, t19, t20] = .ok (decide (sh.length = s)) := by
    refine b_e ((bin_e (len_e (g := pr) (xs := sh) rfl) rfl).trans (dEq_i.trans ?_))
    rw [decide_eq_decide.mpr (by omega : ((sh.length : Int) = (s : Int)) ↔ sh.length = s)]
  rw [ev_ifS tt]
  by_cases hl : sh.length = s
  case neg => rw [decide_eq_false hl]; exact ⟨_, _, rfl⟩
  rw [decide_eq_true hl, if_pos rfl]
  have s0 : (gAsg (gPure (gCB m__law_added (aCons (gVar 14) aNil))) (gtName 19)) [some (di ns), some (di xs), some (.int (s : Int)), some (ssD zs), some (pr (FF zs)), none, none, told, some (di tk0), some (dp sh0), t10, some (oI (leastV s zs)), t12, some (di tk), some (dp sh), t15, t16, some (.bl (dueB s zs tk sh)), none, t19, t20] = .nx [some (di ns), some (di xs), some (.int (s : Int)), some (ssD zs), some (pr (FF zs)), none, none, told, some (di tk0), some (dp sh0), t10, some (oI (leastV s zs)), t12, some (di tk), some (dp sh), t15, t16, some (.bl (dueB s zs tk sh)), none, some (pr (asum (0, 1) sh)), t20] := set_e ((cb1 rfl).trans (added_ok h.gd h.sl).2)
  have s1 : (gAsg (gPure (eTup (aCons (gC (.int 0)) (aCons (gC (.int 1)) aNil)))) (gtName 20)) [some (di ns), some (di xs), some (.int (s : Int)), some (ssD zs), some (pr (FF zs)), none, none, told, some (di tk0), some (dp sh0), t10, some (oI (leastV s zs)), t12, some (di tk), some (dp sh), t15, t16, some (.bl (dueB s zs tk sh)), none, some (pr (asum (0, 1) sh)), t20] = .nx [some (di ns), some (di xs), some (.int (s : Int)), some (ssD zs), some (pr (FF zs)), none, none, told, some (di tk0), some (dp sh0), t10, some (oI (leastV s zs)), t12, some (di tk), some (dp sh), t15, t16, some (.bl (dueB s zs tk sh)), none, some (pr (asum (0, 1) sh)), some (pr (0, 1))] := set_e rfl
  have m6 := mxl6 h
  have g := asum_gd h hl
  have f := part_gd m6
  have s2 : gIfS (gB (gBin dNe (gVar 4) (eTup (aCons (gC (.int 0)) (aCons (gC (.int 1)) aNil))))) (gAsg (gPure (gCB m__law_lowest (aCons (gBin dMul (gBin dIx (gVar 19) (gC (.int 0))) (gBin dIx (gVar 4) (gC (.int 1)))) (aCons (gBin dMul (gBin dIx (gVar 19) (gC (.int 1))) (gBin dIx (gVar 4) (gC (.int 0)))) aNil)))) (gtName 20)) gNext [some (di ns), some (di xs), some (.int (s : Int)), some (ssD zs), some (pr (FF zs)), none, none, told, some (di tk0), some (dp sh0), t10, some (oI (leastV s zs)), t12, some (di tk), some (dp sh), t15, t16, some (.bl (dueB s zs tk sh)), none, some (pr (asum (0, 1) sh)), some (pr (0, 1))] = .nx [some (di ns), some (di xs), some (.int (s : Int)), some (ssD zs), some (pr (FF zs)), none, none, told, some (di tk0), some (dp sh0), t10, some (oI (leastV s zs)), t12, some (di tk), some (dp sh), t15, t16, some (.bl (dueB s zs tk sh)), none, some (pr (asum (0, 1) sh)), some (pr (bnd zs sh))] := by
    have tf : (gB (gBin dNe (gVar 4) (eTup (aCons (gC (.int 0)) (aCons (gC (.int 1)) aNil))))) [some (di ns), some (di xs), some (.int (s : Int)), some (ssD zs), some (pr (FF zs)), none, none, told, some (di tk0), some (dp sh0), t10, some (oI (leastV s zs)), t12, some (di tk), some (dp sh), t15, t16, some (.bl (dueB s zs tk sh)), none, some (pr (asum (0, 1) sh)), some (pr (0, 1))] = .ok (!decide (FF zs = (0, 1))) := b_e ((bin_e rfl (tup2 rfl rfl)).trans (dNe_pr (x := FF zs) (y := (0, 1))))
    rw [ev_ifS tf]
    by_cases c : FF zs = (0, 1)
    · have e : bnd zs sh = (0, 1) := if_pos c
      rw [decide_eq_true c, e]
      rfl
    · rw [decide_eq_false c]
      have m1 : mulOk (asum (0, 1) sh).1 (FF zs).2 = true := mo g.sm.1 (up f.sm.2)
      have m2 : mulOk (asum (0, 1) sh).2 (FF zs).1 = true := mo (up g.sm.2) f.sm.1
      exact (if_pos rfl).trans (set_e ((cb2 ((bin_e ((bin_e rfl rfl).trans ix0) ((bin_e rfl rfl).trans ix1)).trans (dMul_i m1)) ((bin_e ((bin_e rfl rfl).trans ix1) ((bin_e rfl rfl).trans ix0)).trans (dMul_i m2))).trans (bnd_low h hl c)))
  have s3 : (gOr (gB (gBin dNe (gCB m_cover_bound (aCons (gVar 2) (aCons (gVar 3) (aCons (gVar 14) aNil)))) (gVar 20))) (gAnd (gTru (gVar 17)) (gB (gCB m__law_less (aCons (eTup (aCons (gVar 11) (aCons (gC (.int 1)) aNil))) (aCons (gVar 20) aNil)))))) [some (di ns), some (di xs), some (.int (s : Int)), some (ssD zs), some (pr (FF zs)), none, none, told, some (di tk0), some (dp sh0), t10, some (oI (leastV s zs)), t12, some (di tk), some (dp sh), t15, t16, some (.bl (dueB s zs tk sh)), none, some (pr (asum (0, 1) sh)), some (pr (bnd zs sh))] = .ok false := by
    refine or_f (y := false) (b_e ((bin_e ((cb3 rfl rfl rfl).trans (cb_ok h hl)) rfl).trans ne_pr)) ?_
    have td : (gTru (gVar 17)) [some (di ns), some (di xs), some (.int (s : Int)), some (ssD zs), some (pr (FF zs)), none, none, told, some (di tk0), some (dp sh0), t10, some (oI (leastV s zs)), t12, some (di tk), some (dp sh), t15, t16, some (.bl (dueB s zs tk sh)), none, some (pr (asum (0, 1) sh)), some (pr (bnd zs sh))] = .ok (dueB s zs tk sh) := tru_b rfl
    cases d : dueB s zs tk sh with
    | false => rw [d] at td; exact and_f td
    | true =>
      rw [d] at td
      obtain ⟨l, hle, l0, l434, w, eq, hr⟩ := due_least h d
      rw [hle] at td ⊢
      refine and_t td (b_e ((cb2 (tup2 rfl rfl) rfl).trans ((lless_e (x := (l, 1)) (gd_int l0 (by omega)).sm (bnd_sm h hl)).trans ?_)))
      have nl : decide (l * (bnd zs sh).2 < (bnd zs sh).1 * 1) = false := decide_eq_false fun z => by
        unfold bnd at z
        split at z
        · have z : l * 1 < 0 * 1 := z
          omega
        · rename_i c
          rw [eq] at z
          have k : (low (costOf zs tk * (FF zs).2) (1 * (FF zs).1)).1 ≤ l * (low (costOf zs tk * (FF zs).2) (1 * (FF zs).1)).2 := bound_le m6 (ff_pos m6 c) w
          have z : l * (low (costOf zs tk * (FF zs).2) (1 * (FF zs).1)).2 < (low (costOf zs tk * (FF zs).2) (1 * (FF zs).1)).1 * 1 := z
          omega
      exact congrArg (fun z => Rs.ok (DV.bl z)) nl
  exact ⟨_, _, (ev_seq s0).trans ((ev_seq s1).trans ((ev_seq s2).trans ((ev_ifS s3).trans rfl)))⟩
end
end M
end

/-! text Law -/
section
set_option maxRecDepth 100000
set_option maxHeartbeats 4000000
namespace M
open PySem DL
theorem par_e {i j : Nat} {g : GA} {ρ : EnvD} {x y : DV} (h : g ρ = .ok [x, y]) : gPar i j g ρ = .nx ((ρ.set i (some x)).set j (some y)) := by
  unfold gPar
  rw [h]
section
variable {ns xs : List Int} {s i : Nat} {zs : List St} {told t10 t12 t13 t14 t15 t16 t17 t19 t20 : Option DV} {tk0 tk : List Int} {sh0 sh : Prs}
def tB : GS := (gSeq (gPar 13 14 (aCons (gCB dList (aCons (gVar 8) aNil)) (aCons (gCB dList (aCons (gVar 9) aNil)) aNil))) (gSeq (gFor (gRng1 (aCons (gCB dMin2 (aCons (gVar 12) (aCons (gC (.int 2)) aNil))) aNil)) (gtName 15) (gAsg (gPure (gCB m__law_changed (aCons (gVar 1) (aCons (gBin dAdd (gBin dAdd (gC (.int 70)) (gBin dMul (gC (.int 9)) (gVar 12))) (gBin dMul (gC (.int 5)) (gVar 15))) (aCons (gVar 2) (aCons (gVar 3) (aCons (gVar 13) (aCons (gSl (gBin dAdd (gVar 14) (gBin dRep (eLst (aCons (eTup (aCons (gC (.int 0)) (aCons (gC (.int 1)) aNil))) aNil)) (gVar 2))) gNoPart (gPart (gVar 2))) aNil)))))))) (gtTup [13, 14]))) (gSeq (gIfS (gB (gBin dEq (gVar 12) (gC (.int 9)))) (gAsg (gPure (gCB m__law_changed (aCons (gVar 1) (aCons (gC (.int 160)) (aCons (gVar 2) (aCons (gVar 3) (aCons (gVar 13) (aCons (gVar 9) aNil)))))))) (gtTup [13, 14])) gNext) (gSeq (gAsg (gPure (gCB dRepr (aCons (eTup (aCons (gVar 13) (aCons (gVar 14) aNil))) aNil))) (gtName 16)) (gSeq (gAsg (gPure (gCB m__law_due (aCons (gVar 2) (aCons (gVar 3) (aCons (gVar 13) (aCons (gVar 14) aNil)))))) (gtName 17)) (gSeq (gIfS (gOr (gB (gBin dNe (gCB m_check_shares (aCons (gVar 2) (aCons (gVar 3) (aCons (gVar 13) (aCons (gVar 14) aNil))))) (gVar 17))) (gB (gBin dNe (gCB dRepr (aCons (eTup (aCons (gVar 13) (aCons (gVar 14) aNil))) aNil)) (gVar 16)))) (gRet (gPure (gC (.bl false)))) gNext) (gSeq (gIfS (gTru (gVar 17)) (gSeq (gAsg (gPure (gCB dSum (aCons (gLc (gSeqI (gVar 13)) (gtName 18) gYes (gBin dIx (gBin dIx (gVar 3) (gVar 18)) (gC (.int 1))) [18]) aNil))) (gtName 10)) (gIfS (gOr (gB (gBin dIsN (gVar 11) (gC .non))) (gB (gCB m__law_less (aCons (gCB m__law_times (aCons (gVar 4) (aCons (eTup (aCons (gVar 11) (aCons (gC (.int 1)) aNil))) aNil))) (aCons (eTup (aCons (gVar 10) (aCons (gC (.int 1)) aNil))) aNil))))) (gRet (gPure (gC (.bl false)))) gNext)) gNext) (gIfS (gB (gBin dEq (gCB dLen (aCons (gVar 14) aNil)) (gVar 2))) (gSeq (gAsg (gPure (gCB m__law_added (aCons (gVar 14) aNil))) (gtName 19)) (gSeq (gAsg (gPure (eTup (aCons (gC (.int 0)) (aCons (gC (.int 1)) aNil)))) (gtName 20)) (gSeq (gIfS (gB (gBin dNe (gVar 4) (eTup (aCons (gC (.int 0)) (aCons (gC (.int 1)) aNil))))) (gAsg (gPure (gCB m__law_lowest (aCons (gBin dMul (gBin dIx (gVar 19) (gC (.int 0))) (gBin dIx (gVar 4) (gC (.int 1)))) (aCons (gBin dMul (gBin dIx (gVar 19) (gC (.int 1))) (gBin dIx (gVar 4) (gC (.int 0)))) aNil)))) (gtName 20)) gNext) (gIfS (gOr (gB (gBin dNe (gCB m_cover_bound (aCons (gVar 2) (aCons (gVar 3) (aCons (gVar 14) aNil)))) (gVar 20))) (gAnd (gTru (gVar 17)) (gB (gCB m__law_less (aCons (eTup (aCons (gVar 11) (aCons (gC (.int 1)) aNil))) (aCons (gVar 20) aNil)))))) (gRet (gPure (gC (.bl false)))) gNext)))) gNext))))))))
theorem t_two (hx : xs.length = 170) (s1 : 1 ≤ s) (hs : s ≤ 6) (l1 : 1 ≤ zs.length) (hl : zs.length ≤ 7) (hg : ∀ z ∈ zs, GS0 (s : Int) z) (h0 : sh0.length = s) (hb : ShB sh0 3720) (h : CI s tk sh 2) : ∃ (tk' : List Int) (sh' : Prs), gIfS (gB (gBin dEq (gVar 12) (gC (.int 9)))) (gAsg (gPure (gCB m__law_changed (aCons (gVar 1) (aCons (gC (.int 160)) (aCons (gVar 2) (aCons (gVar 3) (aCons (gVar 13) (aCons (gVar 9) aNil)))))))) (gtTup [13, 14])) gNext [some (di ns), some (di xs), some (.int (s : Int)), some (ssD zs), some (pr (FF zs)), none, none, told, some (di tk0), some (dp sh0), t10, some (oI (leastV s zs)), some (.int ((0 : Int) + (i : Int))), some (di tk), some (dp sh), t15, t16, t17, none, t19, t20] = .nx [some (di ns), some (di xs), some (.int (s : Int)), some (ssD zs), some (pr (FF zs)), none, none, told, some (di tk0), some (dp sh0), t10, some (oI (leastV s zs)), some (.int ((0 : Int) + (i : Int))), some (di tk'), some (dp sh'), t15, t16, t17, none, t19, t20] ∧ CI s tk' sh' 3 := by
  obtain ⟨c1, c2, c3, c4⟩ := h
  have t : (gB (gBin dEq (gVar 12) (gC (.int 9)))) [some (di ns), some (di xs), some (.int (s : Int)), some (ssD zs), some (pr (FF zs)), none, none, told, some (di tk0), some (dp sh0), t10, some (oI (leastV s zs)), some (.int ((0 : Int) + (i : Int))), some (di tk), some (dp sh), t15, t16, t17, none, t19, t20] = .ok (decide ((0 : Int) + (i : Int) = 9)) := b_e ((bin_e rfl rfl).trans dEq_i)
  rw [ev_ifS t]
  by_cases c : (0 : Int) + (i : Int) = 9
  · rw [decide_eq_true c, if_pos rfl]
    obtain ⟨tk', sh', e, d1, d2, d3, d4⟩ := changed_ok (a := 160) hx (by omega) s1 hs l1 hl hg (by omega : tk.length ≤ 90) c2 h0 hb (by decide)
    exact ⟨tk', sh', asg2 ((cb6 rfl rfl rfl rfl rfl rfl).trans e) rfl, by omega, d2, d3, d4.mono (by decide)⟩
  · rw [decide_eq_false c, if_neg Bool.false_ne_true]
    exact ⟨tk, sh, rfl, by omega, c2, c3, c4.mono (by decide)⟩
theorem t_rest (h1 : tk.length ≤ 12) (h2 : TkB tk) (h3 : sh.length ≤ 7) (h4 : ShB sh 16000) (h : Dt s zs tk sh) : ∃ u10 u16 u17 u19 u20, gSeq (gAsg (gPure (gCB dRepr (aCons (eTup (aCons (gVar 13) (aCons (gVar 14) aNil))) aNil))) (gtName 16)) (gSeq (gAsg (gPure (gCB m__law_due (aCons (gVar 2) (aCons (gVar 3) (aCons (gVar 13) (aCons (gVar 14) aNil)))))) (gtName 17)) (gSeq (gIfS (gOr (gB (gBin dNe (gCB m_check_shares (aCons (gVar 2) (aCons (gVar 3) (aCons (gVar 13) (aCons (gVar 14) aNil))))) (gVar 17))) (gB (gBin dNe (gCB dRepr (aCons (eTup (aCons (gVar 13) (aCons (gVar 14) aNil))) aNil)) (gVar 16)))) (gRet (gPure (gC (.bl false)))) gNext) (gSeq (gIfS (gTru (gVar 17)) (gSeq (gAsg (gPure (gCB dSum (aCons (gLc (gSeqI (gVar 13)) (gtName 18) gYes (gBin dIx (gBin dIx (gVar 3) (gVar 18)) (gC (.int 1))) [18]) aNil))) (gtName 10)) (gIfS (gOr (gB (gBin dIsN (gVar 11) (gC .non))) (gB (gCB m__law_less (aCons (gCB m__law_times (aCons (gVar 4) (aCons (eTup (aCons (gVar 11) (aCons (gC (.int 1)) aNil))) aNil))) (aCons (eTup (aCons (gVar 10) (aCons (gC (.int 1)) aNil))) aNil))))) (gRet (gPure (gC (.bl false)))) gNext)) gNext) (gIfS (gB (gBin dEq (gCB dLen (aCons (gVar 14) aNil)) (gVar 2))) (gSeq (gAsg (gPure (gCB m__law_added (aCons (gVar 14) aNil))) (gtName 19)) (gSeq (gAsg (gPure (eTup (aCons (gC (.int 0)) (aCons (gC (.int 1)) aNil)))) (gtName 20)) (gSeq (gIfS (gB (gBin dNe (gVar 4) (eTup (aCons (gC (.int 0)) (aCons (gC (.int 1)) aNil))))) (gAsg (gPure (gCB m__law_lowest (aCons (gBin dMul (gBin dIx (gVar 19) (gC (.int 0))) (gBin dIx (gVar 4) (gC (.int 1)))) (aCons (gBin dMul (gBin dIx (gVar 19) (gC (.int 1))) (gBin dIx (gVar 4) (gC (.int 0)))) aNil)))) (gtName 20)) gNext) (gIfS (gOr (gB (gBin dNe (gCB m_cover_bound (aCons (gVar 2) (aCons (gVar 3) (aCons (gVar 14) aNil)))) (gVar 20))) (gAnd (gTru (gVar 17)) (gB (gCB m__law_less (aCons (eTup (aCons (gVar 11) (aCons (gC (.int 1)) aNil))) (aCons (gVar 20) aNil)))))) (gRet (gPure (gC (.bl false)))) gNext)))) gNext)))) [some (di ns), some (di xs), some (.int (s : Int)), some (ssD zs), some (pr (FF zs)), none, none, told, some (di tk0), some (dp sh0), t10, some (oI (leastV s zs)), some (.int ((0 : Int) + (i : Int))), some (di tk), some (dp sh), t15, t16, t17, none, t19, t20] = .nx [some (di ns), some (di xs), some (.int (s : Int)), some (ssD zs), some (pr (FF zs)), none, none, told, some (di tk0), some (dp sh0), u10, some (oI (leastV s zs)), some (.int ((0 : Int) + (i : Int))), some (di tk), some (dp sh), t15, u16, u17, none, u19, u20] := by
  have sw := two_shw h1 h2 h3 h4
  have rp : ∀ {ρ : EnvD}, lk ρ 13 = .ok (di tk) → lk ρ 14 = .ok (dp sh) → gCB dRepr (aCons (eTup (aCons (gVar 13) (aCons (gVar 14) aNil))) aNil) ρ = .ok (.str (py (.tup [di tk, dp sh])).shown) := fun {ρ} g13 g14 => by
    have g13 : gVar 13 ρ = .ok (di tk) := g13
    have g14 : gVar 14 ρ = .ok (dp sh) := g14
    exact (cb1 (tup2 g13 g14)).trans (SH.repr sw rfl (by decide) (by decide))
  have e3 : (gAsg (gPure (gCB dRepr (aCons (eTup (aCons (gVar 13) (aCons (gVar 14) aNil))) aNil))) (gtName 16)) [some (di ns), some (di xs), some (.int (s : Int)), some (ssD zs), some (pr (FF zs)), none, none, told, some (di tk0), some (dp sh0), t10, some (oI (leastV s zs)), some (.int ((0 : Int) + (i : Int))), some (di tk), some (dp sh), t15, t16, t17, none, t19, t20] = .nx [some (di ns), some (di xs), some (.int (s : Int)), some (ssD zs), some (pr (FF zs)), none, none, told, some (di tk0), some (dp sh0), t10, some (oI (leastV s zs)), some (.int ((0 : Int) + (i : Int))), some (di tk), some (dp sh), t15, some (.str (py (.tup [di tk, dp sh])).shown), t17, none, t19, t20] := set_e (rp rfl rfl)
  have e4 : (gAsg (gPure (gCB m__law_due (aCons (gVar 2) (aCons (gVar 3) (aCons (gVar 13) (aCons (gVar 14) aNil)))))) (gtName 17)) [some (di ns), some (di xs), some (.int (s : Int)), some (ssD zs), some (pr (FF zs)), none, none, told, some (di tk0), some (dp sh0), t10, some (oI (leastV s zs)), some (.int ((0 : Int) + (i : Int))), some (di tk), some (dp sh), t15, some (.str (py (.tup [di tk, dp sh])).shown), t17, none, t19, t20] = .nx [some (di ns), some (di xs), some (.int (s : Int)), some (ssD zs), some (pr (FF zs)), none, none, told, some (di tk0), some (dp sh0), t10, some (oI (leastV s zs)), some (.int ((0 : Int) + (i : Int))), some (di tk), some (dp sh), t15, some (.str (py (.tup [di tk, dp sh])).shown), some (.bl (dueB s zs tk sh)), none, t19, t20] := set_e ((cb4 rfl rfl rfl rfl).trans (due_ok h))
  have e5 : (gOr (gB (gBin dNe (gCB m_check_shares (aCons (gVar 2) (aCons (gVar 3) (aCons (gVar 13) (aCons (gVar 14) aNil))))) (gVar 17))) (gB (gBin dNe (gCB dRepr (aCons (eTup (aCons (gVar 13) (aCons (gVar 14) aNil))) aNil)) (gVar 16)))) [some (di ns), some (di xs), some (.int (s : Int)), some (ssD zs), some (pr (FF zs)), none, none, told, some (di tk0), some (dp sh0), t10, some (oI (leastV s zs)), some (.int ((0 : Int) + (i : Int))), some (di tk), some (dp sh), t15, some (.str (py (.tup [di tk, dp sh])).shown), some (.bl (dueB s zs tk sh)), none, t19, t20] = .ok false := by
    rw [or_e (b_e ((bin_e ((cb4 rfl rfl rfl rfl).trans (check_ok h)) rfl).trans ne_bl)) (b_e ((bin_e (rp rfl rfl) rfl).trans (SH.ne_str sw.ok)))]
    rfl
  obtain ⟨u10, e6⟩ := t_six (ns := ns) (xs := xs) (told := told) (t10 := t10) (t12 := some (.int ((0 : Int) + (i : Int)))) (t15 := t15) (t16 := some (.str (py (.tup [di tk, dp sh])).shown)) (t19 := t19) (t20 := t20) (tk0 := tk0) (sh0 := sh0) h
  obtain ⟨u19, u20, e7⟩ := t_seven (ns := ns) (xs := xs) (told := told) (t10 := u10) (t12 := some (.int ((0 : Int) + (i : Int)))) (t15 := t15) (t16 := some (.str (py (.tup [di tk, dp sh])).shown)) (t19 := t19) (t20 := t20) (tk0 := tk0) (sh0 := sh0) h
  refine ⟨u10, some (.str (py (.tup [di tk, dp sh])).shown), some (.bl (dueB s zs tk sh)), u19, u20, ?_⟩
  rw [ev_seq e3, ev_seq e4, ev_skip e5, ev_seq e6]
  exact e7
theorem t_turn (hi : i < 10) (hx : xs.length = 170) (s1 : 1 ≤ s) (hs : s ≤ 6) (l1 : 1 ≤ zs.length) (hl : zs.length ≤ 7) (hg : ∀ z ∈ zs, GS0 (s : Int) z) (ht : tk0.length ≤ 8) (hk : TkB tk0) (h0 : sh0.length = s) (hb : ShB sh0 3720) : ∃ u10 u13 u14 u15 u16 u17 u19 u20, tB [some (di ns), some (di xs), some (.int (s : Int)), some (ssD zs), some (pr (FF zs)), none, none, told, some (di tk0), some (dp sh0), t10, some (oI (leastV s zs)), some (.int ((0 : Int) + (i : Int))), t13, t14, t15, t16, t17, none, t19, t20] = .nx [some (di ns), some (di xs), some (.int (s : Int)), some (ssD zs), some (pr (FF zs)), none, none, told, some (di tk0), some (dp sh0), u10, some (oI (leastV s zs)), some (.int ((0 : Int) + (i : Int))), u13, u14, u15, u16, u17, none, u19, u20] := by
  have e0 : (gPar 13 14 (aCons (gCB dList (aCons (gVar 8) aNil)) (aCons (gCB dList (aCons (gVar 9) aNil)) aNil))) [some (di ns), some (di xs), some (.int (s : Int)), some (ssD zs), some (pr (FF zs)), none, none, told, some (di tk0), some (dp sh0), t10, some (oI (leastV s zs)), some (.int ((0 : Int) + (i : Int))), t13, t14, t15, t16, t17, none, t19, t20] = .nx [some (di ns), some (di xs), some (.int (s : Int)), some (ssD zs), some (pr (FF zs)), none, none, told, some (di tk0), some (dp sh0), t10, some (oI (leastV s zs)), some (.int ((0 : Int) + (i : Int))), some (di tk0), some (dp sh0), t15, t16, t17, none, t19, t20] := par_e (args2 ((cb1 rfl).trans rfl) ((cb1 rfl).trans rfl))
  obtain ⟨tk, sh, u15, e1, ci⟩ := c_loop (ns := ns) (told := told) (t10 := t10) (t15 := t15) (t16 := t16) (t17 := t17) (t19 := t19) (t20 := t20) (tk0 := tk0) (sh0 := sh0) (tk := tk0) (sh := sh0) hx hi s1 hs l1 hl hg ⟨by omega, hk, by omega, hb⟩
  obtain ⟨tk, sh, e2, d1, d2, d3, d4⟩ := t_two (i := i) (ns := ns) (told := told) (t10 := t10) (t15 := u15) (t16 := t16) (t17 := t17) (t19 := t19) (t20 := t20) (tk0 := tk0) (sh0 := sh0) hx s1 hs l1 hl hg h0 hb ci
  have D : Dt s zs tk sh := ⟨s1, hs, l1, hl, hg, by omega, by omega, fun x hx => by
    obtain ⟨N, n1, n2⟩ := d4 x hx
    exact ⟨N, n1, by omega⟩⟩
  obtain ⟨u10, u16, u17, u19, u20, e3⟩ := t_rest (i := i) (ns := ns) (xs := xs) (told := told) (t10 := t10) (t15 := u15) (t16 := t16) (t17 := t17) (t19 := t19) (t20 := t20) (tk0 := tk0) (sh0 := sh0) (by omega) d2 (by omega) (d4.mono (by decide)) D
  refine ⟨u10, some (di tk), some (dp sh), u15, u16, u17, u19, u20, ?_⟩
  unfold tB
  rw [ev_seq e0]
  show gSeq (gFor _ _ cB) _ _ = _
  rw [ev_seq e1, ev_seq e2]
  exact e3
end
/-- what is taken and the shares, told or none -/
theorem told_ok {s : Nat} {zs : List St} (s1 : 1 ≤ s) (hs : s ≤ 6) (l1 : 1 ≤ zs.length) (hl : zs.length ≤ 7) (hg : ∀ z ∈ zs, GS0 (s : Int) z) (ns xs : List Int) : ∃ (tk0 : List Int) (sh0 : Prs) (t10 : Option DV), (gIfS (gB (gBin dNotN (gVar 7) (gC .non))) (gAsg (gPure (gVar 7)) (gtTup [8, 10, 9])) gNext) [some (di ns), some (di xs), some (.int (s : Int)), some (ssD zs), some (pr (FF zs)), none, none, some (qRes s zs), some (di []), some (dp (List.replicate s (0, 1))), none, none, none, none, none, none, none, none, none, none, none] = .nx [some (di ns), some (di xs), some (.int (s : Int)), some (ssD zs), some (pr (FF zs)), none, none, some (qRes s zs), some (di tk0), some (dp sh0), t10, none, none, none, none, none, none, none, none, none, none] ∧ tk0.length ≤ 8 ∧ TkB tk0 ∧ sh0.length = s ∧ ShB sh0 3720 ∧ Dt s zs tk0 sh0 ∧ (qRes s zs = .non ∨ (∃ ds, qRes s zs = .tup ds) ∧ dueB s zs tk0 sh0 = true) := by
  by_cases hc : (covR s zs).cov.length = s
  · obtain ⟨nn, D, sb, due⟩ := told_due s1 hs l1 hl hg hc
    have iv := covR_inv (by omega) hg
    have cl := iv.le
    have tl := iv.tl
    have q : qRes s zs = .tup [di (covR s zs).tk, .int ((covR s zs).tk.map (priceAt zs)).sum, dp ((covR s zs).sh.map val)] := by
      unfold qRes
      rw [if_pos hc]
      unfold resD
      rw [shs_dp nn]
    have tb : TkB (covR s zs).tk := fun k hk => by
      have := iv.t k hk
      omega
    have sl : ((covR s zs).sh.map val).length = s := by rw [List.length_map]; exact iv.l
    generalize ((covR s zs).tk.map (priceAt zs)).sum = c at q
    generalize (covR s zs).sh.map val = sh0 at *
    have tl2 : (covR s zs).tk.length ≤ 8 := by omega
    generalize (covR s zs).tk = tk0 at *
    refine ⟨tk0, sh0, some (.int c), ?_, tl2, tb, sl, sb, D, .inr ⟨⟨_, q⟩, due⟩⟩
    rw [q]
    have t : (gB (gBin dNotN (gVar 7) (gC .non))) [some (di ns), some (di xs), some (.int (s : Int)), some (ssD zs), some (pr (FF zs)), none, none, some (.tup [di tk0, .int c, dp sh0]), some (di []), some (dp (List.replicate s (0, 1))), none, none, none, none, none, none, none, none, none, none, none] = .ok true := b_e ((bin_e rfl rfl).trans rfl)
    rw [ev_ifS t, if_pos rfl]
    rfl
  · have q : qRes s zs = .non := by
      unfold qRes
      rw [if_neg hc]
    have zb : ShB (List.replicate s (0, 1)) 3720 := fun x hx => by
      rw [(List.mem_replicate.mp hx).2]
      exact ⟨0, ⟨⟨by decide, by decide⟩, by decide⟩, Nat.zero_le _⟩
    refine ⟨[], List.replicate s (0, 1), none, ?_, by decide, fun k hk => (by cases hk), List.length_replicate .., zb, ⟨s1, hs, l1, hl, hg, by decide, by rw [List.length_replicate]; omega, fun x hx => ?_⟩, .inl q⟩
    · rw [q]
      have t : (gB (gBin dNotN (gVar 7) (gC .non))) [some (di ns), some (di xs), some (.int (s : Int)), some (ssD zs), some (pr (FF zs)), none, none, some .non, some (di []), some (dp (List.replicate s (0, 1))), none, none, none, none, none, none, none, none, none, none, none] = .ok false := b_e ((bin_e rfl rfl).trans rfl)
      rw [ev_ifS t]
      rfl
    · obtain ⟨N, n1, n2⟩ := zb x hx
      exact ⟨N, n1, by omega⟩
theorem law_true (ns : List Int) (hl : ns.length ≤ 63) : m_law [.lst (ns.map .int)] = .ok (.bl true) := by
  obtain ⟨xs, e1, hx, hr⟩ := numbers_ok hl
  obtain ⟨s, zs, e2, s1, hs, l1, l7, hg⟩ := sets_ok hx hr
  have hm : ∀ z ∈ zs, z.1.length ≤ 40 := fun z hz => Nat.le_trans ((hg z hz).len (by omega)) (by decide)
  have ml := mxl_le hm
  have st : startD 21 [di ns] = [some (di ns), none, none, none, none, none, none, none, none, none, none, none, none, none, none, none, none, none, none, none, none] := rfl
  have a0 : (gAsg (gPure (gCB m__law_numbers (aCons (gVar 0) (aCons (gC (.int 170)) aNil)))) (gtName 1)) [some (di ns), none, none, none, none, none, none, none, none, none, none, none, none, none, none, none, none, none, none, none, none] = .nx [some (di ns), some (di xs), none, none, none, none, none, none, none, none, none, none, none, none, none, none, none, none, none, none, none] := set_e ((cb2 rfl rfl).trans e1)
  have a1 : (gAsg (gPure (gCB m__law_sets (aCons (gVar 1) (aCons (gC (.int 10)) (aCons (gC (.int 6)) (aCons (gC (.int 7)) aNil)))))) (gtTup [2, 3])) [some (di ns), some (di xs), none, none, none, none, none, none, none, none, none, none, none, none, none, none, none, none, none, none, none] = .nx [some (di ns), some (di xs), some (.int (s : Int)), some (ssD zs), none, none, none, none, none, none, none, none, none, none, none, none, none, none, none, none, none] := asg2 ((cb4 rfl rfl rfl rfl).trans e2) rfl
  have a2 : (gAsg (gPure (gCB m__law_part (aCons (gCB dMax (aCons (gLc (gSeqI (gVar 3)) (gtTup [5, 6]) gYes (gCB dLen (aCons (gVar 5) aNil)) [5, 6]) aNil)) aNil))) (gtName 4)) [some (di ns), some (di xs), some (.int (s : Int)), some (ssD zs), none, none, none, none, none, none, none, none, none, none, none, none, none, none, none, none, none] = .nx [some (di ns), some (di xs), some (.int (s : Int)), some (ssD zs), some (pr (FF zs)), none, none, none, none, none, none, none, none, none, none, none, none, none, none, none, none] := by
    have k : (gLc (gSeqI (gVar 3)) (gtTup [5, 6]) gYes (gCB dLen (aCons (gVar 5) aNil)) [5, 6]) [some (di ns), some (di xs), some (.int (s : Int)), some (ssD zs), none, none, none, none, none, none, none, none, none, none, none, none, none, none, none, none, none] = .ok (.lst (zs.map fun z => DV.int (z.1.length : Int))) := ev_lc (seq_e (f := sD) (xs := zs) rfl) (lenG (by omega)) (lcLoop_gen (g := sD) fun z hz => lc_yes (ρ1 := [some (di ns), some (di xs), some (.int (s : Int)), some (ssD zs), none, some (di z.1), some (.int z.2), none, none, none, none, none, none, none, none, none, none, none, none, none, none]) rfl rfl (len_e (g := DV.int) (xs := z.1) rfl))
    exact set_e ((cb1 (max_e l1 k)).trans (lpart_ok ml))
  have a3 : (gB (gBin dNe (gCB m_cover_factor (aCons (gVar 2) (aCons (gVar 3) aNil))) (gVar 4))) [some (di ns), some (di xs), some (.int (s : Int)), some (ssD zs), some (pr (FF zs)), none, none, none, none, none, none, none, none, none, none, none, none, none, none, none, none] = .ok false := b_e ((bin_e ((cb2 rfl rfl).trans (factor_ok s1 (by omega) (by omega) l1 hg)) rfl).trans ne_pr)
  have a4 : (gAsg (gPure (gCB m_quick_cover (aCons (gVar 2) (aCons (gVar 3) aNil)))) (gtName 7)) [some (di ns), some (di xs), some (.int (s : Int)), some (ssD zs), some (pr (FF zs)), none, none, none, none, none, none, none, none, none, none, none, none, none, none, none, none] = .nx [some (di ns), some (di xs), some (.int (s : Int)), some (ssD zs), some (pr (FF zs)), none, none, some (qRes s zs), none, none, none, none, none, none, none, none, none, none, none, none, none] := set_e ((cb2 rfl rfl).trans (quick_ok s1 (by omega) (by omega) l1 hg))
  have a5 : (gPar 8 9 (aCons (eLst aNil) (aCons (gBin dRep (eLst (aCons (eTup (aCons (gC (.int 0)) (aCons (gC (.int 1)) aNil))) aNil)) (gVar 2)) aNil))) [some (di ns), some (di xs), some (.int (s : Int)), some (ssD zs), some (pr (FF zs)), none, none, some (qRes s zs), none, none, none, none, none, none, none, none, none, none, none, none, none] = .nx [some (di ns), some (di xs), some (.int (s : Int)), some (ssD zs), some (pr (FF zs)), none, none, some (qRes s zs), some (di []), some (dp (List.replicate s (0, 1))), none, none, none, none, none, none, none, none, none, none, none] := par_e (args2 rfl ((bin_e (one_e (g := pr) (x := (0, 1)) rfl) rfl).trans (rep_g rfl (by omega))))
  obtain ⟨tk0, sh0, t10, a6, b1, b2, b3, b4, D, hq⟩ := told_ok s1 hs l1 l7 hg ns xs
  have a7 : (gAsg (gPure (gCB m__law_least (aCons (gVar 2) (aCons (gVar 3) aNil)))) (gtName 11)) [some (di ns), some (di xs), some (.int (s : Int)), some (ssD zs), some (pr (FF zs)), none, none, some (qRes s zs), some (di tk0), some (dp sh0), t10, none, none, none, none, none, none, none, none, none, none] = .nx [some (di ns), some (di xs), some (.int (s : Int)), some (ssD zs), some (pr (FF zs)), none, none, some (qRes s zs), some (di tk0), some (dp sh0), t10, some (oI (leastV s zs)), none, none, none, none, none, none, none, none, none] := set_e ((cb2 rfl rfl).trans (least_ok hs l7))
  obtain ⟨ρ', f1, v10, t12, t13, t14, t15, t16, t17, t19, t20, e8⟩ := forG_rngB (tg := gtName 12) (b := tB) 10 (fun _ ρ => ∃ t10 t12 t13 t14 t15 t16 t17 t19 t20 : Option DV, ρ = [some (di ns), some (di xs), some (.int (s : Int)), some (ssD zs), some (pr (FF zs)), none, none, some (qRes s zs), some (di tk0), some (dp sh0), t10, some (oI (leastV s zs)), t12, t13, t14, t15, t16, t17, none, t19, t20]) (fun i ρ hi h => by
    obtain ⟨t10, t12, t13, t14, t15, t16, t17, t19, t20, rfl⟩ := h
    obtain ⟨u10, u13, u14, u15, u16, u17, u19, u20, k⟩ := t_turn (ns := ns) (told := some (qRes s zs)) (t10 := t10) (t13 := t13) (t14 := t14) (t15 := t15) (t16 := t16) (t17 := t17) (t19 := t19) (t20 := t20) hi hx s1 hs l1 l7 hg b1 b2 b3 b4
    exact ⟨_, _, rfl, k, _, _, _, _, _, _, _, _, _, rfl⟩) 10 0 [some (di ns), some (di xs), some (.int (s : Int)), some (ssD zs), some (pr (FF zs)), none, none, some (qRes s zs), some (di tk0), some (dp sh0), t10, some (oI (leastV s zs)), none, none, none, none, none, none, none, none, none] (by omega) ⟨_, _, _, _, _, _, _, _, _, rfl⟩
  have a8 : gFor (gRng1 (aCons (gC (.int 10)) aNil)) (gtName 12) tB [some (di ns), some (di xs), some (.int (s : Int)), some (ssD zs), some (pr (FF zs)), none, none, some (qRes s zs), some (di tk0), some (dp sh0), t10, some (oI (leastV s zs)), none, none, none, none, none, none, none, none, none] = .nx ρ' := ev_for (rng1_e (i := 10) (n := 10) rfl rfl (by omega)) (by rw [rngD_eq]; exact f1)
  have last : (gOrV (gBin dIsN (gVar 7) (gC .non)) (gCB m__law_due (aCons (gVar 2) (aCons (gVar 3) (aCons (gVar 8) (aCons (gVar 9) aNil)))))) [some (di ns), some (di xs), some (.int (s : Int)), some (ssD zs), some (pr (FF zs)), none, none, some (qRes s zs), some (di tk0), some (dp sh0), v10, some (oI (leastV s zs)), t12, t13, t14, t15, t16, t17, none, t19, t20] = .ok (.bl true) := by
    unfold gOrV
    rcases hq with q | ⟨⟨ds, q⟩, due⟩
    · rw [q]
      rfl
    · have i1 : gBin dIsN (gVar 7) (gC .non) [some (di ns), some (di xs), some (.int (s : Int)), some (ssD zs), some (pr (FF zs)), none, none, some (qRes s zs), some (di tk0), some (dp sh0), v10, some (oI (leastV s zs)), t12, t13, t14, t15, t16, t17, none, t19, t20] = .ok (.bl false) := (bin_e (x := .tup ds) (by rw [← q]; rfl) rfl).trans rfl
      rw [i1]
      dsimp only [Rs.bind, asB]
      rw [if_neg Bool.false_ne_true]
      rw [← due]
      exact (cb4 rfl rfl rfl rfl).trans (due_ok D)
  unfold m_law runB b_law
  rw [st, ev_seq a0, ev_seq a1, ev_seq a2, ev_skip a3, ev_seq a4, ev_seq a5, ev_seq a6, ev_seq a7]
  show finB (gSeq (gFor _ _ tB) _ _) = _
  rw [ev_seq a8, e8, ret_e last]
  rfl
end M
end

/-! text Wlk -/
section
set_option maxRecDepth 100000
set_option maxHeartbeats 8000000
namespace M
open PySem PySem.Spec PyProof.Rows L2 DL
def topS (i : Nat) : Stmt := PySem.Challenge.pw_trunkweb_k70_checks_of_shares.main.body.getD i (.Pass ⟨0, 0, 0, 0⟩)
abbrev s_fraction : Stmt := topS 10
theorem sc_fraction : FnScope N_fraction ["numerator", "denominator"] (defScope s_fraction) := ⟨rfl, rfl, rfl, by decide +kernel, rfl, by decide +kernel, by decide +kernel⟩
abbrev s_plus : Stmt := topS 11
theorem sc_plus : FnScope N_plus ["first", "second"] (defScope s_plus) := ⟨rfl, rfl, rfl, by decide +kernel, rfl, by decide +kernel, by decide +kernel⟩
abbrev s_times : Stmt := topS 12
theorem sc_times : FnScope N_times ["first", "second"] (defScope s_times) := ⟨rfl, rfl, rfl, by decide +kernel, rfl, by decide +kernel, by decide +kernel⟩
abbrev s_over : Stmt := topS 13
theorem sc_over : FnScope N_over ["first", "second"] (defScope s_over) := ⟨rfl, rfl, rfl, by decide +kernel, rfl, by decide +kernel, by decide +kernel⟩
abbrev s_is_less : Stmt := topS 14
theorem sc_is_less : FnScope N_is_less ["first", "second"] (defScope s_is_less) := ⟨rfl, rfl, rfl, by decide +kernel, rfl, by decide +kernel, by decide +kernel⟩
abbrev s_added : Stmt := topS 15
theorem sc_added : FnScope N_added ["fractions"] (defScope s_added) := ⟨rfl, rfl, rfl, by decide +kernel, rfl, by decide +kernel, by decide +kernel⟩
abbrev s_check_sets : Stmt := topS 20
theorem sc_check_sets : FnScope N_check_sets ["size", "sets"] (defScope s_check_sets) := ⟨rfl, rfl, rfl, by decide +kernel, rfl, by decide +kernel, by decide +kernel⟩
abbrev s_next_set : Stmt := topS 21
theorem sc_next_set : FnScope N_next_set ["sets", "covered"] (defScope s_next_set) := ⟨rfl, rfl, rfl, by decide +kernel, rfl, by decide +kernel, by decide +kernel⟩
abbrev s_quick_cover : Stmt := topS 22
theorem sc_quick_cover : FnScope N_quick_cover ["size", "sets"] (defScope s_quick_cover) := ⟨rfl, rfl, rfl, by decide +kernel, rfl, by decide +kernel, by decide +kernel⟩
abbrev s_harmonic : Stmt := topS 23
theorem sc_harmonic : FnScope N_harmonic ["many"] (defScope s_harmonic) := ⟨rfl, rfl, rfl, by decide +kernel, rfl, by decide +kernel, by decide +kernel⟩
abbrev s_cover_factor : Stmt := topS 24
theorem sc_cover_factor : FnScope N_cover_factor ["size", "sets"] (defScope s_cover_factor) := ⟨rfl, rfl, rfl, by decide +kernel, rfl, by decide +kernel, by decide +kernel⟩
abbrev s_check_shares : Stmt := topS 25
theorem sc_check_shares : FnScope N_check_shares ["size", "sets", "taken", "shares"] (defScope s_check_shares) := ⟨rfl, rfl, rfl, by decide +kernel, rfl, by decide +kernel, by decide +kernel⟩
abbrev s_cover_bound : Stmt := topS 26
theorem sc_cover_bound : FnScope N_cover_bound ["size", "sets", "shares"] (defScope s_cover_bound) := ⟨rfl, rfl, rfl, by decide +kernel, rfl, by decide +kernel, by decide +kernel⟩
abbrev s__law_numbers : Stmt := topS 28
theorem sc__law_numbers : FnScope N__law_numbers ["_law_script", "_law_many"] (defScope s__law_numbers) := ⟨rfl, rfl, rfl, by decide +kernel, rfl, by decide +kernel, by decide +kernel⟩
abbrev s__law_lowest : Stmt := topS 29
theorem sc__law_lowest : FnScope N__law_lowest ["_law_p", "_law_q"] (defScope s__law_lowest) := ⟨rfl, rfl, rfl, by decide +kernel, rfl, by decide +kernel, by decide +kernel⟩
abbrev s__law_plus : Stmt := topS 30
theorem sc__law_plus : FnScope N__law_plus ["_law_first", "_law_second"] (defScope s__law_plus) := ⟨rfl, rfl, rfl, by decide +kernel, rfl, by decide +kernel, by decide +kernel⟩
abbrev s__law_times : Stmt := topS 31
theorem sc__law_times : FnScope N__law_times ["_law_first", "_law_second"] (defScope s__law_times) := ⟨rfl, rfl, rfl, by decide +kernel, rfl, by decide +kernel, by decide +kernel⟩
abbrev s__law_less : Stmt := topS 32
theorem sc__law_less : FnScope N__law_less ["_law_first", "_law_second"] (defScope s__law_less) := ⟨rfl, rfl, rfl, by decide +kernel, rfl, by decide +kernel, by decide +kernel⟩
abbrev s__law_added : Stmt := topS 33
theorem sc__law_added : FnScope N__law_added ["_law_rows"] (defScope s__law_added) := ⟨rfl, rfl, rfl, by decide +kernel, rfl, by decide +kernel, by decide +kernel⟩
abbrev s__law_sets : Stmt := topS 35
theorem sc__law_sets : FnScope N__law_sets ["_law_numbers_here", "_law_at", "_law_most", "_law_many"] (defScope s__law_sets) := ⟨rfl, rfl, rfl, by decide +kernel, rfl, by decide +kernel, by decide +kernel⟩
abbrev s__law_part : Stmt := topS 36
theorem sc__law_part : FnScope N__law_part ["_law_many"] (defScope s__law_part) := ⟨rfl, rfl, rfl, by decide +kernel, rfl, by decide +kernel, by decide +kernel⟩
abbrev s__law_due : Stmt := topS 37
theorem sc__law_due : FnScope N__law_due ["_law_size", "_law_sets_here", "_law_taken", "_law_shares"] (defScope s__law_due) := ⟨rfl, rfl, rfl, by decide +kernel, rfl, by decide +kernel, by decide +kernel⟩
abbrev s__law_least : Stmt := topS 38
theorem sc__law_least : FnScope N__law_least ["_law_size", "_law_sets_here"] (defScope s__law_least) := ⟨rfl, rfl, rfl, by decide +kernel, rfl, by decide +kernel, by decide +kernel⟩
abbrev s__law_changed : Stmt := topS 39
theorem sc__law_changed : FnScope N__law_changed ["_law_numbers_here", "_law_at", "_law_size", "_law_sets_here", "_law_taken", "_law_shares"] (defScope s__law_changed) := ⟨rfl, rfl, rfl, by decide +kernel, rfl, by decide +kernel, by decide +kernel⟩
abbrev s_law : Stmt := topS 40
theorem sc_law : FnScope N_law ["_law_script"] (defScope s_law) := ⟨rfl, rfl, rfl, by decide +kernel, rfl, by decide +kernel, by decide +kernel⟩
abbrev FnP (K : PySem.W.Frag) (x : Str) (st : Stmt) (f : Addr) (fd : FuncData) : Prop := FunD K x x (defArgs st) (defBody st) (defScope st) [] [] f fd
structure Tp (P : Program) (K : PySem.W.Frag) (mg : Str → Option Value) where
  a_fraction : Addr
  fd_fraction : FuncData
  F_fraction : FnP K "fraction" s_fraction a_fraction fd_fraction
  g_fraction : mg "fraction" = some (.ref a_fraction)
  b_fraction : Binds K fd_fraction ["numerator", "denominator"] []
  a_plus : Addr
  fd_plus : FuncData
  F_plus : FnP K "plus" s_plus a_plus fd_plus
  g_plus : mg "plus" = some (.ref a_plus)
  b_plus : Binds K fd_plus ["first", "second"] []
  a_times : Addr
  fd_times : FuncData
  F_times : FnP K "times" s_times a_times fd_times
  g_times : mg "times" = some (.ref a_times)
  b_times : Binds K fd_times ["first", "second"] []
  a_over : Addr
  fd_over : FuncData
  F_over : FnP K "over" s_over a_over fd_over
  g_over : mg "over" = some (.ref a_over)
  b_over : Binds K fd_over ["first", "second"] []
  a_is_less : Addr
  fd_is_less : FuncData
  F_is_less : FnP K "is_less" s_is_less a_is_less fd_is_less
  g_is_less : mg "is_less" = some (.ref a_is_less)
  b_is_less : Binds K fd_is_less ["first", "second"] []
  a_added : Addr
  fd_added : FuncData
  F_added : FnP K "added" s_added a_added fd_added
  g_added : mg "added" = some (.ref a_added)
  b_added : Binds K fd_added ["fractions"] []
  a_check_sets : Addr
  fd_check_sets : FuncData
  F_check_sets : FnP K "check_sets" s_check_sets a_check_sets fd_check_sets
  g_check_sets : mg "check_sets" = some (.ref a_check_sets)
  b_check_sets : Binds K fd_check_sets ["size", "sets"] []
  a_next_set : Addr
  fd_next_set : FuncData
  F_next_set : FnP K "next_set" s_next_set a_next_set fd_next_set
  g_next_set : mg "next_set" = some (.ref a_next_set)
  b_next_set : Binds K fd_next_set ["sets", "covered"] []
  a_quick_cover : Addr
  fd_quick_cover : FuncData
  F_quick_cover : FnP K "quick_cover" s_quick_cover a_quick_cover fd_quick_cover
  g_quick_cover : mg "quick_cover" = some (.ref a_quick_cover)
  b_quick_cover : Binds K fd_quick_cover ["size", "sets"] []
  a_harmonic : Addr
  fd_harmonic : FuncData
  F_harmonic : FnP K "harmonic" s_harmonic a_harmonic fd_harmonic
  g_harmonic : mg "harmonic" = some (.ref a_harmonic)
  b_harmonic : Binds K fd_harmonic ["many"] []
  a_cover_factor : Addr
  fd_cover_factor : FuncData
  F_cover_factor : FnP K "cover_factor" s_cover_factor a_cover_factor fd_cover_factor
  g_cover_factor : mg "cover_factor" = some (.ref a_cover_factor)
  b_cover_factor : Binds K fd_cover_factor ["size", "sets"] []
  a_check_shares : Addr
  fd_check_shares : FuncData
  F_check_shares : FnP K "check_shares" s_check_shares a_check_shares fd_check_shares
  g_check_shares : mg "check_shares" = some (.ref a_check_shares)
  b_check_shares : Binds K fd_check_shares ["size", "sets", "taken", "shares"] []
  a_cover_bound : Addr
  fd_cover_bound : FuncData
  F_cover_bound : FnP K "cover_bound" s_cover_bound a_cover_bound fd_cover_bound
  g_cover_bound : mg "cover_bound" = some (.ref a_cover_bound)
  b_cover_bound : Binds K fd_cover_bound ["size", "sets", "shares"] []
  a__law_numbers : Addr
  fd__law_numbers : FuncData
  F__law_numbers : FnP K "_law_numbers" s__law_numbers a__law_numbers fd__law_numbers
  g__law_numbers : mg "_law_numbers" = some (.ref a__law_numbers)
  b__law_numbers : Binds K fd__law_numbers ["_law_script", "_law_many"] []
  a__law_lowest : Addr
  fd__law_lowest : FuncData
  F__law_lowest : FnP K "_law_lowest" s__law_lowest a__law_lowest fd__law_lowest
  g__law_lowest : mg "_law_lowest" = some (.ref a__law_lowest)
  b__law_lowest : Binds K fd__law_lowest ["_law_p", "_law_q"] []
  a__law_plus : Addr
  fd__law_plus : FuncData
  F__law_plus : FnP K "_law_plus" s__law_plus a__law_plus fd__law_plus
  g__law_plus : mg "_law_plus" = some (.ref a__law_plus)
  b__law_plus : Binds K fd__law_plus ["_law_first", "_law_second"] []
  a__law_times : Addr
  fd__law_times : FuncData
  F__law_times : FnP K "_law_times" s__law_times a__law_times fd__law_times
  g__law_times : mg "_law_times" = some (.ref a__law_times)
  b__law_times : Binds K fd__law_times ["_law_first", "_law_second"] []
  a__law_less : Addr
  fd__law_less : FuncData
  F__law_less : FnP K "_law_less" s__law_less a__law_less fd__law_less
  g__law_less : mg "_law_less" = some (.ref a__law_less)
  b__law_less : Binds K fd__law_less ["_law_first", "_law_second"] []
  a__law_added : Addr
  fd__law_added : FuncData
  F__law_added : FnP K "_law_added" s__law_added a__law_added fd__law_added
  g__law_added : mg "_law_added" = some (.ref a__law_added)
  b__law_added : Binds K fd__law_added ["_law_rows"] []
  a__law_sets : Addr
  fd__law_sets : FuncData
  F__law_sets : FnP K "_law_sets" s__law_sets a__law_sets fd__law_sets
  g__law_sets : mg "_law_sets" = some (.ref a__law_sets)
  b__law_sets : Binds K fd__law_sets ["_law_numbers_here", "_law_at", "_law_most", "_law_many"] []
  a__law_part : Addr
  fd__law_part : FuncData
  F__law_part : FnP K "_law_part" s__law_part a__law_part fd__law_part
  g__law_part : mg "_law_part" = some (.ref a__law_part)
  b__law_part : Binds K fd__law_part ["_law_many"] []
  a__law_due : Addr
  fd__law_due : FuncData
  F__law_due : FnP K "_law_due" s__law_due a__law_due fd__law_due
  g__law_due : mg "_law_due" = some (.ref a__law_due)
  b__law_due : Binds K fd__law_due ["_law_size", "_law_sets_here", "_law_taken", "_law_shares"] []
  a__law_least : Addr
  fd__law_least : FuncData
  F__law_least : FnP K "_law_least" s__law_least a__law_least fd__law_least
  g__law_least : mg "_law_least" = some (.ref a__law_least)
  b__law_least : Binds K fd__law_least ["_law_size", "_law_sets_here"] []
  a__law_changed : Addr
  fd__law_changed : FuncData
  F__law_changed : FnP K "_law_changed" s__law_changed a__law_changed fd__law_changed
  g__law_changed : mg "_law_changed" = some (.ref a__law_changed)
  b__law_changed : Binds K fd__law_changed ["_law_numbers_here", "_law_at", "_law_size", "_law_sets_here", "_law_taken", "_law_shares"] []
  a_law : Addr
  fd_law : FuncData
  F_law : FnP K "law" s_law a_law fd_law
  g_law : mg "law" = some (.ref a_law)
  b_law : Binds K fd_law ["_law_script"] []
  k_MOST_ELEMENTS : ∃ t, mg "MOST_ELEMENTS" = some (.int 40 t)
  k_MOST_PRICE : ∃ t, mg "MOST_PRICE" = some (.int 1048576 t)
  k_MOST_SETS : ∃ t, mg "MOST_SETS" = some (.int 40 t)
  a_ZERO : Addr
  g_ZERO : mg "ZERO" = some (.ref a_ZERO)
  d_ZERO : ∀ F, DA K mg F (.tup [(.int 0), (.int 1)]) (.ref a_ZERO)
  z_abs : mg "abs" = none
  z_all : mg "all" = none
  z_any : mg "any" = none
  z_gcd : mg "gcd" = some (.builtin "math.gcd")
  z_int : mg "int" = none
  z_len : mg "len" = none
  z_list : mg "list" = none
  z_max : mg "max" = none
  z_min : mg "min" = none
  z_range : mg "range" = none
  z_repr : mg "repr" = none
  z_set : mg "set" = none
  z_sorted : mg "sorted" = none
  z_sum : mg "sum" = none
section
variable {P : Program} {w : World} {K : PySem.W.Frag} {mg : Str → Option Value} {base : Heap}
theorem ok_fraction (T : Tp P K mg) : FnOk P w K mg base CX0 1 T.a_fraction T.fd_fraction ["numerator", "denominator"] (spD K mg X0 [.fr, .fr] .fr m_fraction) := by
  refine fnD (N := N_fraction) (pm := [.fr, .fr]) (Γl := [.fr]) T.F_fraction sc_fraction rfl rfl rfl fun cdv A outer s H E hr => ⟨_, (pss_cons (ps_if (pt_cmpR (kx_eq (K := K) rfl hr.units) (pv 1) pe_int (nomark _)) (pss_one ps_never) pss_nil) (pss_cons (ps_if (pt_cmpR op_lt (pv 1) pe_int (nomark _)) (pss_one (ps_par (i := 0) (j := 1) (by rfl) sc_fraction.nd rfl rfl (by decide) rfl rfl (pa_cons (pe_un un_neg (pv 0)) (pa_cons (pe_un un_neg (pv 1)) pa_nil)) (by rfl))) pss_nil) (pss_cons (ps_set (i := 2) sc_fraction.nd rfl (by first | exact Or.inl rfl | exact Or.inr rfl) (pe_callBfun cr_gcd (by rfl) T.z_gcd (pa_cons (pv 0) (pa_cons (pv 1) pa_nil)))) (pss_one (ps_ret (pe_tup (pa_cons (pe_op op_divX (pv 0) (pv 2)) (pa_cons (pe_op op_divX (pv 1) (pv 2)) pa_nil)))))))), fun Bp F0 => ⟨[.fr, .fr, .fr], ?_⟩⟩
  unfold b_fraction
  exact (ss_seq (ss_if (st_tt (se_op os_eq (se_var (i := 1) (m := .fr) rfl) se_int)) (ss_never (Γ' := [.fr, .fr, .fr])) ss_nil) (ss_seq (ss_if (st_tt (se_op os_lt (se_var (i := 1) (m := .fr) rfl) se_int)) (ss_par (i := 0) (j := 1) (sa_cons (se_neg (se_var (i := 0) (m := .fr) rfl)) (sa_cons (se_neg (se_var (i := 1) (m := .fr) rfl)) sa_nil)) (by decide) (by decide) nio2) ss_nil) (ss_seq (ss_set (i := 2) (m := .fr) (sx_of (se_cb cs_gcd (sa_cons (se_var (i := 0) (m := .fr) rfl) (sa_cons (se_var (i := 1) (m := .fr) rfl) sa_nil)))) (by decide) nio) (ss_ret (Γ' := [.fr, .fr, .fr]) (sx_of (se_tup (sa_cons (se_op os_div (se_var (i := 0) (m := .fr) rfl) (se_var (i := 2) (m := .fr) rfl)) (sa_cons (se_op os_div (se_var (i := 1) (m := .fr) rfl) (se_var (i := 2) (m := .fr) rfl)) sa_nil)) (by decide)))))))
theorem ok_plus (T : Tp P K mg) : FnOk P w K mg base CX0 2 T.a_plus T.fd_plus ["first", "second"] (spD K mg X0 [.fr, .fr] .fr m_plus) := by
  have G_fraction := ok_fraction (P := P) (w := w) (base := base) T
  refine fnD (N := N_plus) (pm := [.fr, .fr]) (Γl := []) T.F_plus sc_plus rfl rfl rfl fun cdv A outer s H E hr => ⟨_, (pss_one (ps_ret (pe_call G_fraction (hr.mono (by decide)) (by rfl) T.g_fraction T.F_fraction.kp T.b_fraction .nil pass0 (pa_cons (pe_op op_addX (pe_op op_mulX (pe_ix (kx_ix (K := K) rfl) (pv 0) pe_int (fun _ _ => rfl)) (pe_ix (kx_ix (K := K) rfl) (pv 1) pe_int (fun _ _ => rfl))) (pe_op op_mulX (pe_ix (kx_ix (K := K) rfl) (pv 1) pe_int (fun _ _ => rfl)) (pe_ix (kx_ix (K := K) rfl) (pv 0) pe_int (fun _ _ => rfl)))) (pa_cons (pe_op op_mulX (pe_ix (kx_ix (K := K) rfl) (pv 0) pe_int (fun _ _ => rfl)) (pe_ix (kx_ix (K := K) rfl) (pv 1) pe_int (fun _ _ => rfl))) pa_nil))))), fun Bp F0 => ⟨[.fr, .fr], ?_⟩⟩
  unfold b_plus
  exact (ss_ret (Γ' := [.fr, .fr]) (sx_of (se_call (sa_cons (se_fr (se_op os_add (se_op os_mul (se_op os_ix (se_var (i := 0) (m := .fr) rfl) se_int) (se_op os_ix (se_var (i := 1) (m := .fr) rfl) se_int)) (se_op os_mul (se_op os_ix (se_var (i := 1) (m := .fr) rfl) se_int) (se_op os_ix (se_var (i := 0) (m := .fr) rfl) se_int))) rfl) (sa_cons (se_op os_mul (se_op os_ix (se_var (i := 0) (m := .fr) rfl) se_int) (se_op os_ix (se_var (i := 1) (m := .fr) rfl) se_int)) sa_nil)) hx0)))
theorem ok_times (T : Tp P K mg) : FnOk P w K mg base CX0 2 T.a_times T.fd_times ["first", "second"] (spD K mg X0 [.fr, .fr] .fr m_times) := by
  have G_fraction := ok_fraction (P := P) (w := w) (base := base) T
  refine fnD (N := N_times) (pm := [.fr, .fr]) (Γl := []) T.F_times sc_times rfl rfl rfl fun cdv A outer s H E hr => ⟨_, (pss_one (ps_ret (pe_call G_fraction (hr.mono (by decide)) (by rfl) T.g_fraction T.F_fraction.kp T.b_fraction .nil pass0 (pa_cons (pe_op op_mulX (pe_ix (kx_ix (K := K) rfl) (pv 0) pe_int (fun _ _ => rfl)) (pe_ix (kx_ix (K := K) rfl) (pv 1) pe_int (fun _ _ => rfl))) (pa_cons (pe_op op_mulX (pe_ix (kx_ix (K := K) rfl) (pv 0) pe_int (fun _ _ => rfl)) (pe_ix (kx_ix (K := K) rfl) (pv 1) pe_int (fun _ _ => rfl))) pa_nil))))), fun Bp F0 => ⟨[.fr, .fr], ?_⟩⟩
  unfold b_times
  exact (ss_ret (Γ' := [.fr, .fr]) (sx_of (se_call (sa_cons (se_op os_mul (se_op os_ix (se_var (i := 0) (m := .fr) rfl) se_int) (se_op os_ix (se_var (i := 1) (m := .fr) rfl) se_int)) (sa_cons (se_op os_mul (se_op os_ix (se_var (i := 0) (m := .fr) rfl) se_int) (se_op os_ix (se_var (i := 1) (m := .fr) rfl) se_int)) sa_nil)) hx0)))
theorem ok_over (T : Tp P K mg) : FnOk P w K mg base CX0 2 T.a_over T.fd_over ["first", "second"] (spD K mg X0 [.fr, .fr] .fr m_over) := by
  have G_fraction := ok_fraction (P := P) (w := w) (base := base) T
  refine fnD (N := N_over) (pm := [.fr, .fr]) (Γl := []) T.F_over sc_over rfl rfl rfl fun cdv A outer s H E hr => ⟨_, (pss_one (ps_ret (pe_call G_fraction (hr.mono (by decide)) (by rfl) T.g_fraction T.F_fraction.kp T.b_fraction .nil pass0 (pa_cons (pe_op op_mulX (pe_ix (kx_ix (K := K) rfl) (pv 0) pe_int (fun _ _ => rfl)) (pe_ix (kx_ix (K := K) rfl) (pv 1) pe_int (fun _ _ => rfl))) (pa_cons (pe_op op_mulX (pe_ix (kx_ix (K := K) rfl) (pv 0) pe_int (fun _ _ => rfl)) (pe_ix (kx_ix (K := K) rfl) (pv 1) pe_int (fun _ _ => rfl))) pa_nil))))), fun Bp F0 => ⟨[.fr, .fr], ?_⟩⟩
  unfold b_over
  exact (ss_ret (Γ' := [.fr, .fr]) (sx_of (se_call (sa_cons (se_op os_mul (se_op os_ix (se_var (i := 0) (m := .fr) rfl) se_int) (se_op os_ix (se_var (i := 1) (m := .fr) rfl) se_int)) (sa_cons (se_op os_mul (se_op os_ix (se_var (i := 0) (m := .fr) rfl) se_int) (se_op os_ix (se_var (i := 1) (m := .fr) rfl) se_int)) sa_nil)) hx0)))
theorem ok_is_less (T : Tp P K mg) : FnOk P w K mg base CX0 1 T.a_is_less T.fd_is_less ["first", "second"] (spD K mg X0 [.fr, .fr] .fr m_is_less) := by
  refine fnD (N := N_is_less) (pm := [.fr, .fr]) (Γl := []) T.F_is_less sc_is_less rfl rfl rfl fun cdv A outer s H E hr => ⟨_, (pss_one (ps_ret (pe_cmpR op_lt (pe_op op_mulX (pe_ix (kx_ix (K := K) rfl) (pv 0) pe_int (fun _ _ => rfl)) (pe_ix (kx_ix (K := K) rfl) (pv 1) pe_int (fun _ _ => rfl))) (pe_op op_mulX (pe_ix (kx_ix (K := K) rfl) (pv 1) pe_int (fun _ _ => rfl)) (pe_ix (kx_ix (K := K) rfl) (pv 0) pe_int (fun _ _ => rfl))) (nomark _)))), fun Bp F0 => ⟨[.fr, .fr], ?_⟩⟩
  unfold b_is_less
  exact (ss_ret (Γ' := [.fr, .fr]) (sx_of (se_op os_lt (se_op os_mul (se_op os_ix (se_var (i := 0) (m := .fr) rfl) se_int) (se_op os_ix (se_var (i := 1) (m := .fr) rfl) se_int)) (se_op os_mul (se_op os_ix (se_var (i := 1) (m := .fr) rfl) se_int) (se_op os_ix (se_var (i := 0) (m := .fr) rfl) se_int)))))
theorem ok_added (T : Tp P K mg) : FnOk P w K mg base CX0 3 T.a_added T.fd_added ["fractions"] (spD K mg X0 [.fr] .fr m_added) := by
  have G_plus := ok_plus (P := P) (w := w) (base := base) T
  refine fnD (N := N_added) (pm := [.fr]) (Γl := [.fr, .fr]) T.F_added sc_added rfl rfl rfl fun cdv A outer s H E hr => ⟨_, (pss_cons (ps_set (i := 1) sc_added.nd rfl (by first | exact Or.inl rfl | exact Or.inr rfl) (pe_glob (v := .ref T.a_ZERO) rfl T.g_ZERO rfl)) (pss_cons (ps_for PassesOwn.never rfl (kx_seq (K := K) rfl (pv 0)) (pg_name (i := 2) sc_added.nd rfl (by first | exact Or.inl rfl | exact Or.inr rfl)) (pss_one (ps_set (i := 1) sc_added.nd rfl (by first | exact Or.inl rfl | exact Or.inr rfl) (pe_call G_plus (hr.mono (by decide)) (by rfl) T.g_plus T.F_plus.kp T.b_plus .nil pass0 (pa_cons (pv 1) (pa_cons (pv 2) pa_nil)))))) (pss_one (ps_ret (pv 1))))), fun Bp F0 => ⟨[.fr, .fr, .fr], ?_⟩⟩
  unfold b_added
  exact (ss_seq (ss_set (i := 1) (m := .fr) (sx_of (se_glob (T.d_ZERO))) (by decide) nio) (ss_seq (ss_for (si_seqS (se_var (i := 0) (m := .fr) rfl)) (sn_name (i := 2) (m := .fr) rfl nio) nx_name (ss_set (i := 1) (m := .fr) (sx_of (se_call (sa_cons (se_var (i := 1) (m := .fr) rfl) (sa_cons (se_var (i := 2) (m := .fr) rfl) sa_nil)) hx0)) (by decide) nio)) (ss_ret (Γ' := [.fr, .fr, .fr]) (sx_of (se_var (i := 1) (m := .fr) rfl)))))
theorem ok_check_sets (T : Tp P K mg) : FnOk P w K mg base CX0 1 T.a_check_sets T.fd_check_sets ["size", "sets"] (spD K mg X0 [.fr, .fr] .fr m_check_sets) := by
  refine fnD (N := N_check_sets) (pm := [.fr, .fr]) (Γl := [.fr, .fr, .fr, .fr]) T.F_check_sets sc_check_sets rfl rfl rfl fun cdv A outer s H E hr => ⟨_, (pss_cons (ps_if (pt_not (pt_chain op_le op_le pe_int (pv 0) (pe_glob (v := (.int 40)) rfl T.k_MOST_ELEMENTS.choose_spec ⟨_, rfl⟩))) (pss_one ps_never) pss_nil) (pss_cons (ps_if (pt_not (pt_chain op_le op_le pe_int (pe_callB (kx_len (K := K) rfl) (by rfl) T.z_len (by decide +kernel) (pa_cons (pv 1) pa_nil)) (pe_glob (v := (.int 40)) rfl T.k_MOST_SETS.choose_spec ⟨_, rfl⟩))) (pss_one ps_never) pss_nil) (pss_one (ps_for PassesOwn.never rfl (pi_range1 rfl T.z_range (pa_cons (pe_callB (kx_len (K := K) rfl) (by rfl) T.z_len (by decide +kernel) (pa_cons (pv 1) pa_nil)) pa_nil)) (pg_name (i := 2) sc_check_sets.nd rfl (by first | exact Or.inl rfl | exact Or.inr rfl)) (pss_cons (ps_asg (pe_ix (kx_ix (K := K) rfl) (pv 1) (pv 2) (fun _ _ => rfl)) (pg_tup rfl (pgs_cons (pg_name (i := 3) sc_check_sets.nd rfl (by first | exact Or.inl rfl | exact Or.inr rfl)) (pgs_cons (pg_name (i := 4) sc_check_sets.nd rfl (by first | exact Or.inl rfl | exact Or.inr rfl)) pgs_nil)))) (pss_cons (ps_for PassesOwn.never rfl (pi_range1 rfl T.z_range (pa_cons (pe_callB (kx_len (K := K) rfl) (by rfl) T.z_len (by decide +kernel) (pa_cons (pv 3) pa_nil)) pa_nil)) (pg_name (i := 5) sc_check_sets.nd rfl (by first | exact Or.inl rfl | exact Or.inr rfl)) (pss_one (ps_if (PW.pt (pw_or (pt_not (pt_chain op_le op_lt pe_int (pe_ix (kx_ix (K := K) rfl) (pv 3) (pv 5) (fun _ _ => rfl)) (pv 0))) (pw_or1 (PW.pt (pw_and (pt_cmpR op_gt (pv 5) pe_int (nomark _)) (pw_and1 (pt_cmpR op_le (pe_ix (kx_ix (K := K) rfl) (pv 3) (pv 5) (fun _ _ => rfl)) (pe_ix (kx_ix (K := K) rfl) (pv 3) (pe_op op_sub (pv 5) pe_int) (fun _ _ => rfl)) (nomark _)))))))) (pss_one ps_never) pss_nil))) (pss_one (ps_if (pt_not (pt_chain op_le op_le pe_int (pv 4) (pe_glob (v := (.int 1048576)) rfl T.k_MOST_PRICE.choose_spec ⟨_, rfl⟩))) (pss_one ps_never) pss_nil)))))))), fun Bp F0 => ⟨[.fr, .fr, .fr, .fr, .fr, .fr], ?_⟩⟩
  unfold b_check_sets
  exact (ss_seq (ss_if (st_not (st_tt (se_chain os_le os_le se_int (se_var (i := 0) (m := .fr) rfl) (se_const (m := .fr) rfl rfl)))) (ss_never (Γ' := [.fr, .fr, .fr, .fr, .fr, .fr])) ss_nil) (ss_seq (ss_if (st_not (st_tt (se_chain os_le os_le se_int (se_cb cs_len (sa_cons (se_var (i := 1) (m := .fr) rfl) sa_nil)) (se_const (m := .fr) rfl rfl)))) (ss_never (Γ' := [.fr, .fr, .fr, .fr, .fr, .fr])) ss_nil) (ss_for (si_rng1 (sa_cons (se_cb cs_len (sa_cons (se_var (i := 1) (m := .fr) rfl) sa_nil)) sa_nil)) (sn_name (i := 2) (m := .fr) rfl nio) nx_name (ss_seq (ss_asg (sx_of (se_op os_ix (se_var (i := 1) (m := .fr) rfl) (se_var (i := 2) (m := .fr) rfl))) (sn_tup (m := .fr) (is := [3, 4]) (Names.cons (Names.cons Names.nil)) (by decide) nioL) nx_tup) (ss_seq (ss_for (si_rng1 (sa_cons (se_cb cs_len (sa_cons (se_var (i := 3) (m := .fr) rfl) sa_nil)) sa_nil)) (sn_name (i := 5) (m := .fr) rfl nio) nx_name (ss_if (st_or (st_not (st_tt (se_chain os_le os_lt se_int (se_op os_ix (se_var (i := 3) (m := .fr) rfl) (se_var (i := 5) (m := .fr) rfl)) (se_var (i := 0) (m := .fr) rfl)))) (st_and (st_tt (se_op os_gt (se_var (i := 5) (m := .fr) rfl) se_int)) (st_tt (se_op os_le (se_op os_ix (se_var (i := 3) (m := .fr) rfl) (se_var (i := 5) (m := .fr) rfl)) (se_op os_ix (se_var (i := 3) (m := .fr) rfl) (se_op os_sub (se_var (i := 5) (m := .fr) rfl) se_int)))))) (ss_never (Γ' := [.fr, .fr, .fr, .fr, .fr, .fr])) ss_nil)) (ss_if (st_not (st_tt (se_chain os_le os_le se_int (se_var (i := 4) (m := .fr) rfl) (se_const (m := .fr) rfl rfl)))) (ss_never (Γ' := [.fr, .fr, .fr, .fr, .fr, .fr])) ss_nil))))))
theorem ok_next_set (T : Tp P K mg) : FnOk P w K mg base CX0 2 T.a_next_set T.fd_next_set ["sets", "covered"] (spD K mg X0 [.fr, .bo] .fr m_next_set) := by
  have G_fraction := ok_fraction (P := P) (w := w) (base := base) T
  have G_is_less := ok_is_less (P := P) (w := w) (base := base) T
  refine fnD (N := N_next_set) (pm := [.fr, .bo]) (Γl := [.fr, .fr, .fr, .fr, .fr, .fr]) T.F_next_set sc_next_set rfl rfl rfl fun cdv A outer s H E hr => ⟨_, (pss_cons (ps_set (i := 2) sc_next_set.nd rfl (by first | exact Or.inl rfl | exact Or.inr rfl) pe_non) (pss_cons (ps_for PassesOwn.never rfl (pi_range1 rfl T.z_range (pa_cons (pe_callB (kx_len (K := K) rfl) (by rfl) T.z_len (by decide +kernel) (pa_cons (pv 0) pa_nil)) pa_nil)) (pg_name (i := 3) sc_next_set.nd rfl (by first | exact Or.inl rfl | exact Or.inr rfl)) (pss_cons (ps_asg (pe_ix (kx_ix (K := K) rfl) (pv 0) (pv 3) (fun _ _ => rfl)) (pg_tup rfl (pgs_cons (pg_name (i := 4) sc_next_set.nd rfl (by first | exact Or.inl rfl | exact Or.inr rfl)) (pgs_cons (pg_name (i := 5) sc_next_set.nd rfl (by first | exact Or.inl rfl | exact Or.inr rfl)) pgs_nil)))) (pss_cons (ps_set (i := 6) sc_next_set.nd rfl (by first | exact Or.inl rfl | exact Or.inr rfl) (pe_callB (kx_len (K := K) rfl) (by rfl) T.z_len (by decide +kernel) (pa_cons (pe_lc (own := [("element", 7)]) (g := (L2.gName 7)) rfl sc_next_set.nd (kx_seq (K := K) rfl (pv 4)) (blkOk_by (own := [("element", 7)]) (N := N_next_set) (sc := defScope s_next_set) (by decide +kernel)) (fun _ _ _ _ _ => (pg_name (i := 7) sc_next_set.nd rfl (by first | exact Or.inl rfl | exact Or.inr rfl))) (fun _ _ _ _ _ => pts_one (pt_cmpR (kx_notIn (K := K) rfl hr.units65) (pv 7) (pv 1) (by rfl))) (fun _ _ _ _ _ => (pv 7))) pa_nil))) (pss_one (ps_if (PW.pt (pw_and (pt_cmpR op_gt (pv 6) pe_int (nomark _)) (pw_and1 (PW.pt (pw_or (pt_cmpR op_isN (pv 2) pe_non (nomark _)) (pw_or1 (pt_val (pe_call G_is_less (hr.mono (by decide)) (by rfl) T.g_is_less T.F_is_less.kp T.b_is_less .nil pass0 (pa_cons (pe_call G_fraction (hr.mono (by decide)) (by rfl) T.g_fraction T.F_fraction.kp T.b_fraction .nil pass0 (pa_cons (pv 5) (pa_cons (pv 6) pa_nil))) (pa_cons (pe_ix (kx_ix (K := K) rfl) (pv 2) pe_int (fun _ _ => rfl)) pa_nil)))))))))) (pss_one (ps_set (i := 2) sc_next_set.nd rfl (by first | exact Or.inl rfl | exact Or.inr rfl) (pe_tup (pa_cons (pe_call G_fraction (hr.mono (by decide)) (by rfl) T.g_fraction T.F_fraction.kp T.b_fraction .nil pass0 (pa_cons (pv 5) (pa_cons (pv 6) pa_nil))) (pa_cons (pv 3) pa_nil))))) pss_nil))))) (pss_one (ps_ret (pe_ifExp (pt_cmpR op_isN (pv 2) pe_non (nomark _)) pe_non (pe_ix (kx_ix (K := K) rfl) (pv 2) pe_int (fun _ _ => rfl))))))), fun Bp F0 => ⟨[.fr, .bo, .fr, .fr, .fr, .fr, .fr, .fr], ?_⟩⟩
  unfold b_next_set
  exact (ss_seq (ss_set (i := 2) (m := .fr) (sx_of se_non) (by decide) nio) (ss_seq (ss_for (si_rng1 (sa_cons (se_cb cs_len (sa_cons (se_var (i := 0) (m := .fr) rfl) sa_nil)) sa_nil)) (sn_name (i := 3) (m := .fr) rfl nio) nx_name (ss_seq (ss_asg (sx_of (se_op os_ix (se_var (i := 0) (m := .fr) rfl) (se_var (i := 3) (m := .fr) rfl))) (sn_tup (m := .fr) (is := [4, 5]) (Names.cons (Names.cons Names.nil)) (by decide) nioL) nx_tup) (ss_seq (ss_set (i := 6) (m := .fr) (sx_of (se_cb cs_len (sa_cons (se_fr (se_lc (vs := [7]) (si_seqC (se_var (i := 4) (m := .fr) rfl)) (sn_name (i := 7) (m := .fr) rfl nio) (keeps_name (by decide)) nx_name (by decide) (st_tt (se_op os_notIn (se_var (i := 7) (m := .fr) rfl) (se_var (i := 1) (m := .bo) rfl))) (se_var (i := 7) (m := .fr) rfl) rfl rfl nioL) rfl) sa_nil))) (by decide) nio) (ss_if (st_and (st_tt (se_op os_gt (se_var (i := 6) (m := .fr) rfl) se_int)) (st_or (st_tt (se_op os_isN (se_var (i := 2) (m := .fr) rfl) se_non)) (st_b (se_call (sa_cons (se_call (sa_cons (se_var (i := 5) (m := .fr) rfl) (sa_cons (se_var (i := 6) (m := .fr) rfl) sa_nil)) hx0) (sa_cons (se_op os_ix (se_var (i := 2) (m := .fr) rfl) se_int) sa_nil)) hx0)))) (ss_set (i := 2) (m := .fr) (sx_of (se_tup (sa_cons (se_call (sa_cons (se_var (i := 5) (m := .fr) rfl) (sa_cons (se_var (i := 6) (m := .fr) rfl) sa_nil)) hx0) (sa_cons (se_var (i := 3) (m := .fr) rfl) sa_nil)) (by decide))) (by decide) nio) ss_nil)))) (ss_ret (Γ' := [.fr, .bo, .fr, .fr, .fr, .fr, .fr, .fr]) (sx_of (se_if (st_tt (se_op os_isN (se_var (i := 2) (m := .fr) rfl) se_non)) se_non (se_op os_ix (se_var (i := 2) (m := .fr) rfl) se_int))))))
theorem ok_quick_cover (T : Tp P K mg) : FnOk P w K mg base CX0 3 T.a_quick_cover T.fd_quick_cover ["size", "sets"] (spD K mg X0 [.fr, .fr] .fr m_quick_cover) := by
  have G_check_sets := ok_check_sets (P := P) (w := w) (base := base) T
  have G_next_set := ok_next_set (P := P) (w := w) (base := base) T
  have G_fraction := ok_fraction (P := P) (w := w) (base := base) T
  refine fnD (N := N_quick_cover) (pm := [.fr, .fr]) (Γl := [(.own .fr), (.own .fr), (.own .fr), .fr, .fr, .fr]) T.F_quick_cover sc_quick_cover rfl rfl rfl fun cdv A outer s H E hr => ⟨_, (pss_cons (ps_expr (pe_call G_check_sets (hr.mono (by decide)) (by rfl) T.g_check_sets T.F_check_sets.kp T.b_check_sets .nil pass0 (pa_cons (pv 0) (pa_cons (pv 1) pa_nil)))) (pss_cons (ps_set (i := 2) sc_quick_cover.nd rfl (by first | exact Or.inl rfl | exact Or.inr rfl) (pe_op op_rep (pe_lst (pa_cons pe_non pa_nil)) (pv 0))) (pss_cons (ps_set (i := 3) sc_quick_cover.nd rfl (by first | exact Or.inl rfl | exact Or.inr rfl) (pe_lst pa_nil)) (pss_cons (ps_set (i := 4) sc_quick_cover.nd rfl (by first | exact Or.inl rfl | exact Or.inr rfl) (pe_lst pa_nil)) (pss_cons (ps_while PassesOwn.never (pt_cmpR op_lt (pe_callB (kx_len (K := K) rfl) (by rfl) T.z_len (by decide +kernel) (pa_cons (pv 3) pa_nil)) (pv 0) (nomark _)) (pss_cons (ps_set (i := 5) sc_quick_cover.nd rfl (by first | exact Or.inl rfl | exact Or.inr rfl) (pe_call G_next_set (hr.mono (by decide)) (by rfl) T.g_next_set T.F_next_set.kp T.b_next_set .nil pass0 (pa_cons (pv 1) (pa_cons (pv 3) pa_nil)))) (pss_cons (ps_if (pt_cmpR op_isN (pv 5) pe_non (nomark _)) (pss_one (ps_ret pe_non)) pss_nil) (pss_cons (ps_setLc (i := 6) (own := [("element", 7)]) (g := (L2.gName 7)) rfl sc_quick_cover.nd rfl rfl (sw_true rfl rfl rfl (by decide +kernel)) (kx_seq (K := K) rfl (pe_ix (kx_ix (K := K) rfl) (pe_ix (kx_ix (K := K) rfl) (pv 1) (pv 5) (fun _ _ => rfl)) pe_int (fun _ _ => rfl))) (blkOk_by (own := [("element", 7)]) (N := N_quick_cover) (sc := defScope s_quick_cover) (by decide +kernel)) (fun _ _ _ _ _ => (pg_name (i := 7) sc_quick_cover.nd rfl (by first | exact Or.inl rfl | exact Or.inr rfl))) (fun _ _ _ _ _ => pts_one (pt_cmpR (kx_notIn (K := K) rfl hr.units65) (pv 7) (pv 3) (by rfl))) (fun _ _ _ _ _ => (pv 7))) (pss_cons (ps_for PassesOwn.never rfl (kx_seq (K := K) rfl (pv 6)) (pg_name (i := 7) sc_quick_cover.nd rfl (by first | exact Or.inl rfl | exact Or.inr rfl)) (pss_one (ps_asg (pe_call G_fraction (hr.mono (by decide)) (by rfl) T.g_fraction T.F_fraction.kp T.b_fraction .nil pass0 (pa_cons (pe_ix (kx_ix (K := K) rfl) (pe_ix (kx_ix (K := K) rfl) (pv 1) (pv 5) (fun _ _ => rfl)) pe_int (fun _ _ => rfl)) (pa_cons (pe_callB (kx_len (K := K) rfl) (by rfl) T.z_len (by decide +kernel) (pa_cons (pv 6) pa_nil)) pa_nil))) (pg_sub (pv 2) (pv 7) set_list)))) (pss_cons (ps_expr (pe_bm PySem.F.plainAttrs_list PySem.F.slot_list_extend PySem.F.type_list_extend mt_extendR (pv 3) (pa_cons (pv 6) pa_nil))) (pss_one (ps_expr (pe_bm PySem.F.plainAttrs_list PySem.F.slot_list_append PySem.F.type_list_append mt_append (pv 4) (pa_cons (pv 5) pa_nil)))))))))) (pss_one (ps_ret (pe_tup (pa_cons (pv 4) (pa_cons (pe_callB (kx_sum (K := K) rfl rfl) (by rfl) T.z_sum (by decide +kernel) (pa_cons (pe_lc (own := [("k", 5)]) (g := (L2.gName 5)) rfl sc_quick_cover.nd (kx_seq (K := K) rfl (pv 4)) (blkOk_by (own := [("k", 5)]) (N := N_quick_cover) (sc := defScope s_quick_cover) (by decide +kernel)) (fun _ _ _ _ _ => (pg_name (i := 5) sc_quick_cover.nd rfl (by first | exact Or.inl rfl | exact Or.inr rfl))) (fun _ _ _ _ _ => pts_nil) (fun _ _ _ _ _ => (pe_ix (kx_ix (K := K) rfl) (pe_ix (kx_ix (K := K) rfl) (pv 1) (pv 5) (fun _ _ => rfl)) pe_int (fun _ _ => rfl)))) pa_nil)) (pa_cons (pv 2) pa_nil))))))))))), fun Bp F0 => ⟨[.fr, .fr, (.own .fr), (.own .fr), (.own .fr), .fr, .fr, .fr], ?_⟩⟩
  unfold b_quick_cover
  exact (ss_seq (ss_expr (sx_of (se_call (sa_cons (se_var (i := 0) (m := .fr) rfl) (sa_cons (se_var (i := 1) (m := .fr) rfl) sa_nil)) hx0))) (ss_seq (ss_set (i := 2) (m := (.own .fr)) (sx_of (se_op os_rep (se_lst (m := .fr) (sa_cons se_non sa_nil) (by decide)) (se_var (i := 0) (m := .fr) rfl))) (by decide) nio) (ss_seq (ss_set (i := 3) (m := (.own .fr)) (sx_of (se_lst (m := .fr) sa_nil (by decide))) (by decide) nio) (ss_seq (ss_set (i := 4) (m := (.own .fr)) (sx_of (se_lst (m := .fr) sa_nil (by decide))) (by decide) nio) (ss_seq (ss_frz (i := 2) (m := (.own .fr)) (ss_frz (i := 4) (m := (.own .fr)) (ss_while (st_tt (se_op os_lt (se_cb cs_len (sa_cons (se_var (i := 3) (m := (.own .fr)) rfl) sa_nil)) (se_var (i := 0) (m := .fr) rfl))) (ss_seq (ss_set (i := 5) (m := .fr) (sx_of (se_call (sa_cons (se_var (i := 1) (m := .fr) rfl) (sa_cons (se_var (i := 3) (m := (.own .fr)) rfl) sa_nil)) hx0)) (by decide) nio) (ss_seq (ss_if (st_tt (se_op os_isN (se_var (i := 5) (m := .fr) rfl) se_non)) (ss_ret (Γ' := [.fr, .fr, (.own .fr), (.own .fr), (.own .fr), .fr, .fr, .fr]) (sx_of se_non)) ss_nil) (ss_seq (ss_set (i := 6) (sx_of (se_fr (se_lc (vs := [7]) (si_seqC (se_op os_ix (se_op os_ix (se_var (i := 1) (m := .fr) rfl) (se_var (i := 5) (m := .fr) rfl)) se_int)) (sn_name (i := 7) (m := .fr) rfl nio) (keeps_name (by decide)) nx_name (by decide) (st_tt (se_op os_notIn (se_var (i := 7) (m := .fr) rfl) (se_var (i := 3) (m := (.own .fr)) rfl))) (se_var (i := 7) (m := .fr) rfl) rfl rfl nioL) rfl)) (by decide) nio) (ss_seq (ss_for (si_seqS (se_var (i := 6) (m := .fr) rfl)) (sn_name (i := 7) (m := .fr) rfl nio) nx_name (ss_seti (i := 2) (m := .fr) rfl (sx_of (se_call (sa_cons (se_op os_ix (se_op os_ix (se_var (i := 1) (m := .fr) rfl) (se_var (i := 5) (m := .fr) rfl)) se_int) (sa_cons (se_cb cs_len (sa_cons (se_var (i := 6) (m := .fr) rfl) sa_nil)) sa_nil)) hx0)) (se_var (i := 7) (m := .fr) rfl) rfl)) (ss_seq (ss_expr (sx_ext (i := 3) rfl (sx_of (se_var (i := 6) (m := .fr) rfl)))) (ss_expr (sx_app (i := 4) (m := .fr) rfl (sx_of (se_var (i := 5) (m := .fr) rfl)) rfl)))))))) rfl nio) rfl nio) (ss_ret (Γ' := [.fr, .fr, (.own .fr), (.own .fr), (.own .fr), .fr, .fr, .fr]) (sx_of (se_tup (sa_cons (se_var (i := 4) (m := .fr) rfl) (sa_cons (se_cb cs_sum (sa_cons (se_fr (se_lc (vs := [5]) (si_seqC (se_var (i := 4) (m := .fr) rfl)) (sn_name (i := 5) (m := .fr) rfl nio) (keeps_name (by decide)) nx_name (by decide) st_yes (se_op os_ix (se_op os_ix (se_var (i := 1) (m := .fr) rfl) (se_var (i := 5) (m := .fr) rfl)) se_int) rfl rfl nioL) rfl) sa_nil)) (sa_cons (se_var (i := 2) (m := .fr) rfl) sa_nil))) (by decide)))))))))
theorem ok_harmonic (T : Tp P K mg) : FnOk P w K mg base CX0 4 T.a_harmonic T.fd_harmonic ["many"] (spD K mg X0 [.fr] .fr m_harmonic) := by
  have G_fraction := ok_fraction (P := P) (w := w) (base := base) T
  have G_added := ok_added (P := P) (w := w) (base := base) T
  refine fnD (N := N_harmonic) (pm := [.fr]) (Γl := [.fr]) T.F_harmonic sc_harmonic rfl rfl rfl fun cdv A outer s H E hr => ⟨_, (pss_one (ps_ret (pe_call G_added (hr.mono (by decide)) (by rfl) T.g_added T.F_added.kp T.b_added .nil pass0 (pa_cons (pe_lc (own := [("part", 1)]) (g := (L2.gName 1)) rfl sc_harmonic.nd (pi_range2 rfl T.z_range (pa_cons pe_int (pa_cons (pe_op op_addX (pv 0) pe_int) pa_nil))) (blkOk_by (own := [("part", 1)]) (N := N_harmonic) (sc := defScope s_harmonic) (by decide +kernel)) (fun _ _ _ _ _ => (pg_name (i := 1) sc_harmonic.nd rfl (by first | exact Or.inl rfl | exact Or.inr rfl))) (fun _ _ _ _ _ => pts_nil) (fun _ _ _ _ _ => (pe_call G_fraction (hr.mono (by decide)) (by rfl) T.g_fraction T.F_fraction.kp T.b_fraction .nil pass0 (pa_cons pe_int (pa_cons (pv 1) pa_nil))))) pa_nil)))), fun Bp F0 => ⟨[.fr, .fr], ?_⟩⟩
  unfold b_harmonic
  exact (ss_ret (Γ' := [.fr, .fr]) (sx_of (se_call (sa_cons (se_fr (se_lc (vs := [1]) (si_rng2 (sa_cons se_int (sa_cons (se_fr (se_op os_add (se_var (i := 0) (m := .fr) rfl) se_int) rfl) sa_nil))) (sn_name (i := 1) (m := .fr) rfl nio) (keeps_name (by decide)) nx_name (by decide) st_yes (se_call (sa_cons se_int (sa_cons (se_var (i := 1) (m := .fr) rfl) sa_nil)) hx0) rfl rfl nioL) rfl) sa_nil) hx0)))
theorem ok_cover_factor (T : Tp P K mg) : FnOk P w K mg base CX0 5 T.a_cover_factor T.fd_cover_factor ["size", "sets"] (spD K mg X0 [.fr, .fr] .fr m_cover_factor) := by
  have G_check_sets := ok_check_sets (P := P) (w := w) (base := base) T
  have G_harmonic := ok_harmonic (P := P) (w := w) (base := base) T
  refine fnD (N := N_cover_factor) (pm := [.fr, .fr]) (Γl := [.fr, .fr]) T.F_cover_factor sc_cover_factor rfl rfl rfl fun cdv A outer s H E hr => ⟨_, (pss_cons (ps_expr (pe_call G_check_sets (hr.mono (by decide)) (by rfl) T.g_check_sets T.F_check_sets.kp T.b_check_sets .nil pass0 (pa_cons (pv 0) (pa_cons (pv 1) pa_nil)))) (pss_one (ps_ret (pe_call G_harmonic (hr.mono (by decide)) (by rfl) T.g_harmonic T.F_harmonic.kp T.b_harmonic .nil pass0 (pa_cons (pe_callB (kx_max (K := K) rfl rfl) (by rfl) T.z_max (by decide +kernel) (pa_cons (pe_lc (own := [("members", 2), ("_", 3)]) (g := (L2.gTup _ 2 (L2.gCons (L2.gName 2) (L2.gCons (L2.gName 3) L2.gNil)))) rfl sc_cover_factor.nd (kx_seq (K := K) rfl (pv 1)) (blkOk_by (own := [("members", 2), ("_", 3)]) (N := N_cover_factor) (sc := defScope s_cover_factor) (by decide +kernel)) (fun _ _ _ _ _ => (pg_tup rfl (pgs_cons (pg_name (i := 2) sc_cover_factor.nd rfl (by first | exact Or.inl rfl | exact Or.inr rfl)) (pgs_cons (pg_name (i := 3) sc_cover_factor.nd rfl (by first | exact Or.inl rfl | exact Or.inr rfl)) pgs_nil)))) (fun _ _ _ _ _ => pts_nil) (fun _ _ _ _ _ => (pe_callB (kx_len (K := K) rfl) (by rfl) T.z_len (by decide +kernel) (pa_cons (pv 2) pa_nil)))) pa_nil)) pa_nil))))), fun Bp F0 => ⟨[.fr, .fr, .fr, .fr], ?_⟩⟩
  unfold b_cover_factor
  exact (ss_seq (ss_expr (sx_of (se_call (sa_cons (se_var (i := 0) (m := .fr) rfl) (sa_cons (se_var (i := 1) (m := .fr) rfl) sa_nil)) hx0))) (ss_ret (Γ' := [.fr, .fr, .fr, .fr]) (sx_of (se_call (sa_cons (se_cb cs_max (sa_cons (se_fr (se_lc (vs := [2, 3]) (si_seqC (se_var (i := 1) (m := .fr) rfl)) (sn_tup (m := .fr) (is := [2, 3]) (Names.cons (Names.cons Names.nil)) (by decide) nioL) (keeps_tup (by decide)) nx_tup (by decide) st_yes (se_cb cs_len (sa_cons (se_var (i := 2) (m := .fr) rfl) sa_nil)) rfl rfl nioL) rfl) sa_nil)) sa_nil) hx0))))
theorem ok_check_shares (T : Tp P K mg) : FnOk P w K mg base CX0 5 T.a_check_shares T.fd_check_shares ["size", "sets", "taken", "shares"] (spD K mg X0 [.fr, .fr, .fr, .fr] .fr m_check_shares) := by
  have G_check_sets := ok_check_sets (P := P) (w := w) (base := base) T
  have G_added := ok_added (P := P) (w := w) (base := base) T
  have G_harmonic := ok_harmonic (P := P) (w := w) (base := base) T
  have G_times := ok_times (P := P) (w := w) (base := base) T
  have G_is_less := ok_is_less (P := P) (w := w) (base := base) T
  refine fnD (N := N_check_shares) (pm := [.fr, .fr, .fr, .fr]) (Γl := [.fr, .fr, .fr, .fr, .fr]) T.F_check_shares sc_check_shares rfl rfl rfl fun cdv A outer s H E hr => ⟨_, (pss_cons (ps_expr (pe_call G_check_sets (hr.mono (by decide)) (by rfl) T.g_check_sets T.F_check_sets.kp T.b_check_sets .nil pass0 (pa_cons (pv 0) (pa_cons (pv 1) pa_nil)))) (pss_cons (ps_if (PW.pt (pw_or (pt_cmpR (kx_ne (K := K) rfl hr.units) (pe_callB (kx_len (K := K) rfl) (by rfl) T.z_len (by decide +kernel) (pa_cons (pv 3) pa_nil)) (pv 0) (nomark _)) (pw_or (pt_cmpR (kx_ne (K := K) rfl hr.units) (pe_lenS (by rfl) T.z_len (by rfl) T.z_set (pv 2)) (pe_callB (kx_len (K := K) rfl) (by rfl) T.z_len (by decide +kernel) (pa_cons (pv 2) pa_nil)) (nomark _)) (pw_or1 (pt_not (pt_val (pe_callB (kx_all (K := K) rfl rfl) (by rfl) T.z_all (by decide +kernel) (pa_cons (pe_lc (own := [("k", 4)]) (g := (L2.gName 4)) rfl sc_check_shares.nd (kx_seq (K := K) rfl (pv 2)) (blkOk_by (own := [("k", 4)]) (N := N_check_shares) (sc := defScope s_check_shares) (by decide +kernel)) (fun _ _ _ _ _ => (pg_name (i := 4) sc_check_shares.nd rfl (by first | exact Or.inl rfl | exact Or.inr rfl))) (fun _ _ _ _ _ => pts_nil) (fun _ _ _ _ _ => (pe_chain op_le op_lt pe_int (pv 4) (pe_callB (kx_len (K := K) rfl) (by rfl) T.z_len (by decide +kernel) (pa_cons (pv 1) pa_nil))))) pa_nil)))))))) (pss_one (ps_ret pe_bl)) pss_nil) (pss_cons (ps_for PassesOwn.never rfl (pi_range1 rfl T.z_range (pa_cons (pv 0) pa_nil)) (pg_name (i := 5) sc_check_shares.nd rfl (by first | exact Or.inl rfl | exact Or.inr rfl)) (pss_one (ps_if (PW.pt (pw_or (pt_cmpR op_lt (pe_ix (kx_ix (K := K) rfl) (pe_ix (kx_ix (K := K) rfl) (pv 3) (pv 5) (fun _ _ => rfl)) pe_int (fun _ _ => rfl)) pe_int (nomark _)) (pw_or1 (pt_not (pt_val (pe_callB (kx_any (K := K) rfl rfl) (by rfl) T.z_any (by decide +kernel) (pa_cons (pe_lc (own := [("k", 4)]) (g := (L2.gName 4)) rfl sc_check_shares.nd (kx_seq (K := K) rfl (pv 2)) (blkOk_by (own := [("k", 4)]) (N := N_check_shares) (sc := defScope s_check_shares) (by decide +kernel)) (fun _ _ _ _ _ => (pg_name (i := 4) sc_check_shares.nd rfl (by first | exact Or.inl rfl | exact Or.inr rfl))) (fun _ _ _ _ _ => pts_nil) (fun _ _ _ _ _ => (pe_cmpR (kx_in (K := K) rfl hr.units65) (pv 5) (pe_ix (kx_ix (K := K) rfl) (pe_ix (kx_ix (K := K) rfl) (pv 1) (pv 4) (fun _ _ => rfl)) pe_int (fun _ _ => rfl)) (by rfl)))) pa_nil))))))) (pss_one (ps_ret pe_bl)) pss_nil))) (pss_cons (ps_for PassesOwn.never rfl (kx_seq (K := K) rfl (pv 1)) (pg_tup rfl (pgs_cons (pg_name (i := 6) sc_check_shares.nd rfl (by first | exact Or.inl rfl | exact Or.inr rfl)) (pgs_cons (pg_name (i := 7) sc_check_shares.nd rfl (by first | exact Or.inl rfl | exact Or.inr rfl)) pgs_nil))) (pss_cons (ps_set (i := 8) sc_check_shares.nd rfl (by first | exact Or.inl rfl | exact Or.inr rfl) (pe_call G_added (hr.mono (by decide)) (by rfl) T.g_added T.F_added.kp T.b_added .nil pass0 (pa_cons (pe_lc (own := [("element", 5)]) (g := (L2.gName 5)) rfl sc_check_shares.nd (kx_seq (K := K) rfl (pv 6)) (blkOk_by (own := [("element", 5)]) (N := N_check_shares) (sc := defScope s_check_shares) (by decide +kernel)) (fun _ _ _ _ _ => (pg_name (i := 5) sc_check_shares.nd rfl (by first | exact Or.inl rfl | exact Or.inr rfl))) (fun _ _ _ _ _ => pts_nil) (fun _ _ _ _ _ => (pe_ix (kx_ix (K := K) rfl) (pv 3) (pv 5) (fun _ _ => rfl)))) pa_nil))) (pss_one (ps_if (pt_val (pe_call G_is_less (hr.mono (by decide)) (by rfl) T.g_is_less T.F_is_less.kp T.b_is_less .nil pass0 (pa_cons (pe_call G_times (hr.mono (by decide)) (by rfl) T.g_times T.F_times.kp T.b_times .nil pass0 (pa_cons (pe_call G_harmonic (hr.mono (by decide)) (by rfl) T.g_harmonic T.F_harmonic.kp T.b_harmonic .nil pass0 (pa_cons (pe_callB (kx_len (K := K) rfl) (by rfl) T.z_len (by decide +kernel) (pa_cons (pv 6) pa_nil)) pa_nil)) (pa_cons (pe_tup (pa_cons (pv 7) (pa_cons pe_int pa_nil))) pa_nil))) (pa_cons (pv 8) pa_nil)))) (pss_one (ps_ret pe_bl)) pss_nil)))) (pss_one (ps_ret (pe_cmpR (kx_eq (K := K) rfl hr.units) (pe_call G_added (hr.mono (by decide)) (by rfl) T.g_added T.F_added.kp T.b_added .nil pass0 (pa_cons (pv 3) pa_nil)) (pe_tup (pa_cons (pe_callB (kx_sum (K := K) rfl rfl) (by rfl) T.z_sum (by decide +kernel) (pa_cons (pe_lc (own := [("k", 4)]) (g := (L2.gName 4)) rfl sc_check_shares.nd (kx_seq (K := K) rfl (pv 2)) (blkOk_by (own := [("k", 4)]) (N := N_check_shares) (sc := defScope s_check_shares) (by decide +kernel)) (fun _ _ _ _ _ => (pg_name (i := 4) sc_check_shares.nd rfl (by first | exact Or.inl rfl | exact Or.inr rfl))) (fun _ _ _ _ _ => pts_nil) (fun _ _ _ _ _ => (pe_ix (kx_ix (K := K) rfl) (pe_ix (kx_ix (K := K) rfl) (pv 1) (pv 4) (fun _ _ => rfl)) pe_int (fun _ _ => rfl)))) pa_nil)) (pa_cons pe_int pa_nil))) (nomark _)))))))), fun Bp F0 => ⟨[.fr, .fr, .fr, .fr, .fr, .fr, .fr, .fr, .fr], ?_⟩⟩
  unfold b_check_shares
  exact (ss_seq (ss_expr (sx_of (se_call (sa_cons (se_var (i := 0) (m := .fr) rfl) (sa_cons (se_var (i := 1) (m := .fr) rfl) sa_nil)) hx0))) (ss_seq (ss_if (st_or (st_tt (se_op os_ne (se_cb cs_len (sa_cons (se_var (i := 3) (m := .fr) rfl) sa_nil)) (se_var (i := 0) (m := .fr) rfl))) (st_or (st_tt (se_op os_ne (se_lenS (se_var (i := 2) (m := .fr) rfl)) (se_cb cs_len (sa_cons (se_var (i := 2) (m := .fr) rfl) sa_nil)))) (st_not (st_b (se_cb cs_all (sa_cons (se_fr (se_lc (vs := [4]) (si_seqC (se_var (i := 2) (m := .fr) rfl)) (sn_name (i := 4) (m := .fr) rfl nio) (keeps_name (by decide)) nx_name (by decide) st_yes (se_chain os_le os_lt se_int (se_var (i := 4) (m := .fr) rfl) (se_cb cs_len (sa_cons (se_var (i := 1) (m := .fr) rfl) sa_nil))) rfl rfl nioL) rfl) sa_nil)))))) (ss_ret (Γ' := [.fr, .fr, .fr, .fr, .fr, .fr, .fr, .fr, .fr]) (sx_of se_bl)) ss_nil) (ss_seq (ss_for (si_rng1 (sa_cons (se_var (i := 0) (m := .fr) rfl) sa_nil)) (sn_name (i := 5) (m := .fr) rfl nio) nx_name (ss_if (st_or (st_tt (se_op os_lt (se_op os_ix (se_op os_ix (se_var (i := 3) (m := .fr) rfl) (se_var (i := 5) (m := .fr) rfl)) se_int) se_int)) (st_not (st_b (se_cb cs_any (sa_cons (se_fr (se_lc (vs := [4]) (si_seqC (se_var (i := 2) (m := .fr) rfl)) (sn_name (i := 4) (m := .fr) rfl nio) (keeps_name (by decide)) nx_name (by decide) st_yes (se_op os_in (se_var (i := 5) (m := .fr) rfl) (se_op os_ix (se_op os_ix (se_var (i := 1) (m := .fr) rfl) (se_var (i := 4) (m := .fr) rfl)) se_int)) rfl rfl nioL) rfl) sa_nil))))) (ss_ret (Γ' := [.fr, .fr, .fr, .fr, .fr, .fr, .fr, .fr, .fr]) (sx_of se_bl)) ss_nil)) (ss_seq (ss_for (si_seqS (se_var (i := 1) (m := .fr) rfl)) (sn_tup (m := .fr) (is := [6, 7]) (Names.cons (Names.cons Names.nil)) (by decide) nioL) nx_tup (ss_seq (ss_set (i := 8) (m := .fr) (sx_of (se_call (sa_cons (se_fr (se_lc (vs := [5]) (si_seqC (se_var (i := 6) (m := .fr) rfl)) (sn_name (i := 5) (m := .fr) rfl nio) (keeps_name (by decide)) nx_name (by decide) st_yes (se_op os_ix (se_var (i := 3) (m := .fr) rfl) (se_var (i := 5) (m := .fr) rfl)) rfl rfl nioL) rfl) sa_nil) hx0)) (by decide) nio) (ss_if (st_b (se_call (sa_cons (se_call (sa_cons (se_call (sa_cons (se_cb cs_len (sa_cons (se_var (i := 6) (m := .fr) rfl) sa_nil)) sa_nil) hx0) (sa_cons (se_tup (sa_cons (se_var (i := 7) (m := .fr) rfl) (sa_cons se_int sa_nil)) (by decide)) sa_nil)) hx0) (sa_cons (se_var (i := 8) (m := .fr) rfl) sa_nil)) hx0)) (ss_ret (Γ' := [.fr, .fr, .fr, .fr, .fr, .fr, .fr, .fr, .fr]) (sx_of se_bl)) ss_nil))) (ss_ret (Γ' := [.fr, .fr, .fr, .fr, .fr, .fr, .fr, .fr, .fr]) (sx_of (se_op os_eq (se_call (sa_cons (se_var (i := 3) (m := .fr) rfl) sa_nil) hx0) (se_tup (sa_cons (se_cb cs_sum (sa_cons (se_fr (se_lc (vs := [4]) (si_seqC (se_var (i := 2) (m := .fr) rfl)) (sn_name (i := 4) (m := .fr) rfl nio) (keeps_name (by decide)) nx_name (by decide) st_yes (se_op os_ix (se_op os_ix (se_var (i := 1) (m := .fr) rfl) (se_var (i := 4) (m := .fr) rfl)) se_int) rfl rfl nioL) rfl) sa_nil)) (sa_cons se_int sa_nil)) (by decide)))))))))
theorem ok_cover_bound (T : Tp P K mg) : FnOk P w K mg base CX0 6 T.a_cover_bound T.fd_cover_bound ["size", "sets", "shares"] (spD K mg X0 [.fr, .fr, .fr] .fr m_cover_bound) := by
  have G_check_sets := ok_check_sets (P := P) (w := w) (base := base) T
  have G_cover_factor := ok_cover_factor (P := P) (w := w) (base := base) T
  have G_added := ok_added (P := P) (w := w) (base := base) T
  have G_over := ok_over (P := P) (w := w) (base := base) T
  refine fnD (N := N_cover_bound) (pm := [.fr, .fr, .fr]) (Γl := [.fr]) T.F_cover_bound sc_cover_bound rfl rfl rfl fun cdv A outer s H E hr => ⟨_, (pss_cons (ps_expr (pe_call G_check_sets (hr.mono (by decide)) (by rfl) T.g_check_sets T.F_check_sets.kp T.b_check_sets .nil pass0 (pa_cons (pv 0) (pa_cons (pv 1) pa_nil)))) (pss_cons (ps_set (i := 3) sc_cover_bound.nd rfl (by first | exact Or.inl rfl | exact Or.inr rfl) (pe_call G_cover_factor (hr.mono (by decide)) (by rfl) T.g_cover_factor T.F_cover_factor.kp T.b_cover_factor .nil pass0 (pa_cons (pv 0) (pa_cons (pv 1) pa_nil)))) (pss_cons (ps_if (pt_cmpR (kx_eq (K := K) rfl hr.units) (pv 3) (pe_glob (v := .ref T.a_ZERO) rfl T.g_ZERO rfl) (nomark _)) (pss_one (ps_ret (pe_glob (v := .ref T.a_ZERO) rfl T.g_ZERO rfl))) pss_nil) (pss_one (ps_ret (pe_call G_over (hr.mono (by decide)) (by rfl) T.g_over T.F_over.kp T.b_over .nil pass0 (pa_cons (pe_call G_added (hr.mono (by decide)) (by rfl) T.g_added T.F_added.kp T.b_added .nil pass0 (pa_cons (pv 2) pa_nil)) (pa_cons (pv 3) pa_nil)))))))), fun Bp F0 => ⟨[.fr, .fr, .fr, .fr], ?_⟩⟩
  unfold b_cover_bound
  exact (ss_seq (ss_expr (sx_of (se_call (sa_cons (se_var (i := 0) (m := .fr) rfl) (sa_cons (se_var (i := 1) (m := .fr) rfl) sa_nil)) hx0))) (ss_seq (ss_set (i := 3) (m := .fr) (sx_of (se_call (sa_cons (se_var (i := 0) (m := .fr) rfl) (sa_cons (se_var (i := 1) (m := .fr) rfl) sa_nil)) hx0)) (by decide) nio) (ss_seq (ss_if (st_tt (se_op os_eq (se_var (i := 3) (m := .fr) rfl) (se_glob (T.d_ZERO)))) (ss_ret (Γ' := [.fr, .fr, .fr, .fr]) (sx_of (se_glob (T.d_ZERO)))) ss_nil) (ss_ret (Γ' := [.fr, .fr, .fr, .fr]) (sx_of (se_call (sa_cons (se_call (sa_cons (se_var (i := 2) (m := .fr) rfl) sa_nil) hx0) (sa_cons (se_var (i := 3) (m := .fr) rfl) sa_nil)) hx0))))))
theorem ok__law_numbers (T : Tp P K mg) : FnOk P w K mg base CX0 1 T.a__law_numbers T.fd__law_numbers ["_law_script", "_law_many"] (spD K mg X0 [.sc, .fr] (.own .fr) m__law_numbers) := by
  refine fnD (N := N__law_numbers) (pm := [.sc, .fr]) (Γl := [(.own .fr), .fr, (.own .fr), (.own .fr), .fr, .fr]) T.F__law_numbers sc__law_numbers rfl rfl rfl fun cdv A outer s H E hr => ⟨_, (pss_cons (ps_set (i := 2) sc__law_numbers.nd rfl (by first | exact Or.inl rfl | exact Or.inr rfl) (pe_op op_addX (pe_lc (own := [("_law_cell", 3)]) (g := (L2.gName 3)) rfl sc__law_numbers.nd (kx_seq (K := K) rfl (pe_slice (kx_sl (K := K) rfl) (pv 0) po_none (po_some pe_int))) (blkOk_by (own := [("_law_cell", 3)]) (N := N__law_numbers) (sc := defScope s__law_numbers) (by decide +kernel)) (fun _ _ _ _ _ => (pg_name (i := 3) sc__law_numbers.nd rfl (by first | exact Or.inl rfl | exact Or.inr rfl))) (fun _ _ _ _ _ => pts_nil) (fun _ _ _ _ _ => (pe_callB call_abs (by rfl) T.z_abs (by decide +kernel) (pa_cons (pv 3) pa_nil)))) (pe_lst (pa_cons pe_int pa_nil)))) (pss_cons (ps_if (pt_cmpR op_gt (pe_callB (kx_len (K := K) rfl) (by rfl) T.z_len (by decide +kernel) (pa_cons (pv 0) pa_nil)) pe_int (nomark _)) (pss_one (ps_set (i := 2) sc__law_numbers.nd rfl (by first | exact Or.inl rfl | exact Or.inr rfl) (pe_slice (kx_sl (K := K) rfl) (pv 2) po_none (po_some (pe_un un_neg pe_int))))) pss_nil) (pss_cons (ps_setLc (i := 4) (own := [("_law_cell", 3)]) (g := (L2.gName 3)) rfl sc__law_numbers.nd rfl rfl (sw_true rfl rfl rfl (by decide +kernel)) (kx_seq (K := K) rfl (pv 2)) (blkOk_by (own := [("_law_cell", 3)]) (N := N__law_numbers) (sc := defScope s__law_numbers) (by decide +kernel)) (fun _ _ _ _ _ => (pg_name (i := 3) sc__law_numbers.nd rfl (by first | exact Or.inl rfl | exact Or.inr rfl))) (fun _ _ _ _ _ => pts_nil) (fun _ _ _ _ _ => (pe_op op_modX (pe_callTy call_int1 (by rfl) T.z_int (by decide +kernel) (pa_cons (pe_op op_addX (pe_op op_mulX (pv 3) pe_int) pe_int) pa_nil)) pe_int))) (pss_cons (ps_set (i := 5) sc__law_numbers.nd rfl (by first | exact Or.inl rfl | exact Or.inr rfl) (pe_lst pa_nil)) (pss_cons (ps_for PassesOwn.never rfl (pi_range1 rfl T.z_range (pa_cons (pv 1) pa_nil)) (pg_name (i := 6) sc__law_numbers.nd rfl (by first | exact Or.inl rfl | exact Or.inr rfl)) (pss_cons (ps_set (i := 7) sc__law_numbers.nd rfl (by first | exact Or.inl rfl | exact Or.inr rfl) (pe_op op_modX (pe_callTy call_int1 (by rfl) T.z_int (by decide +kernel) (pa_cons (pv 6) pa_nil)) (pe_callB (kx_len (K := K) rfl) (by rfl) T.z_len (by decide +kernel) (pa_cons (pv 2) pa_nil)))) (pss_one (ps_if (pt_cmpR op_ge (pe_ix (kx_ix (K := K) rfl) (pv 2) (pv 7) (fun _ _ => rfl)) (pe_op op_pow pe_int pe_int) (nomark _)) (pss_cons (ps_expr (pe_bm PySem.F.plainAttrs_list PySem.F.slot_list_append PySem.F.type_list_append mt_append (pv 5) (pa_cons (pe_op op_modX (pe_callTy call_int1 (by rfl) T.z_int (by decide +kernel) (pa_cons (pe_ix (kx_ix (K := K) rfl) (pv 2) (pv 7) (fun _ _ => rfl)) pa_nil)) pe_int) pa_nil))) (pss_one (ps_asg (pe_op op_divX (pe_ix (kx_ix (K := K) rfl) (pv 2) (pv 7) (fun _ _ => rfl)) pe_int) (pg_sub (pv 2) (pv 7) set_list)))) (pss_cons (ps_asg (pe_op op_modX (pe_callTy call_int1 (by rfl) T.z_int (by decide +kernel) (pa_cons (pe_op op_addX (pe_op op_addX (pe_op op_mulX (pe_ix (kx_ix (K := K) rfl) (pv 4) (pv 7) (fun _ _ => rfl)) pe_int) pe_int) (pe_op op_mulX pe_int (pv 6))) pa_nil)) pe_int) (pg_sub (pv 4) (pv 7) set_list)) (pss_one (ps_expr (pe_bm PySem.F.plainAttrs_list PySem.F.slot_list_append PySem.F.type_list_append mt_append (pv 5) (pa_cons (pe_op op_modX (pe_callTy call_int1 (by rfl) T.z_int (by decide +kernel) (pa_cons (pe_op op_addX (pe_ix (kx_ix (K := K) rfl) (pv 2) (pv 7) (fun _ _ => rfl)) (pe_op op_divX (pe_ix (kx_ix (K := K) rfl) (pv 4) (pv 7) (fun _ _ => rfl)) pe_int)) pa_nil)) pe_int) pa_nil))))))))) (pss_one (ps_ret (pv 5)))))))), fun Bp F0 => ⟨[.sc, .fr, (.own .fr), .fr, (.own .fr), (.own .fr), .fr, .fr], ?_⟩⟩
  unfold b__law_numbers
  exact (ss_seq (ss_set (i := 2) (m := (.own .fr)) (sx_of (se_op os_add (se_fr (se_lc (vs := [3]) (si_seqC (se_fr (se_sl (se_var (i := 0) (m := .sc) rfl) so_none (so_some se_int)) rfl)) (sn_name (i := 3) (m := .fr) rfl nio) (keeps_name (by decide)) nx_name (by decide) st_yes (se_cb cs_abs (sa_cons (se_var (i := 3) (m := .fr) rfl) sa_nil)) rfl rfl nioL) rfl) (se_fr (se_lst (m := .fr) (sa_cons se_int sa_nil) (by decide)) rfl))) (by decide) nio) (ss_seq (ss_if (st_tt (se_op os_gt (se_cb cs_len (sa_cons (se_var (i := 0) (m := .sc) rfl) sa_nil)) se_int)) (ss_set (i := 2) (m := (.own .fr)) (sx_of (se_sl (se_var (i := 2) (m := (.own .fr)) rfl) so_none (so_some (se_neg se_int)))) (by decide) nio) ss_nil) (ss_seq (ss_set (i := 4) (sx_of (se_lc (vs := [3]) (si_seqC (se_var (i := 2) (m := (.own .fr)) rfl)) (sn_name (i := 3) (m := .fr) rfl nio) (keeps_name (by decide)) nx_name (by decide) st_yes (se_op os_mod (se_cb cs_int (sa_cons (se_fr (se_op os_add (se_op os_mul (se_var (i := 3) (m := .fr) rfl) se_int) se_int) rfl) sa_nil)) se_int) rfl rfl nioL)) (by decide) nio) (ss_seq (ss_set (i := 5) (m := (.own .fr)) (sx_of (se_lst (m := .fr) sa_nil (by decide))) (by decide) nio) (ss_seq (ss_for (si_rng1 (sa_cons (se_var (i := 1) (m := .fr) rfl) sa_nil)) (sn_name (i := 6) (m := .fr) rfl nio) nx_name (ss_seq (ss_set (i := 7) (m := .fr) (sx_of (se_op os_mod (se_cb cs_int (sa_cons (se_var (i := 6) (m := .fr) rfl) sa_nil)) (se_cb cs_len (sa_cons (se_var (i := 2) (m := (.own .fr)) rfl) sa_nil)))) (by decide) nio) (ss_if (st_tt (se_op os_ge (se_op os_ix (se_var (i := 2) (m := (.own .fr)) rfl) (se_var (i := 7) (m := .fr) rfl)) (se_op os_pow se_int se_int))) (ss_seq (ss_expr (sx_app (i := 5) (m := .fr) rfl (sx_of (se_op os_mod (se_cb cs_int (sa_cons (se_op os_ix (se_var (i := 2) (m := (.own .fr)) rfl) (se_var (i := 7) (m := .fr) rfl)) sa_nil)) se_int)) rfl)) (ss_seti (i := 2) (m := .fr) rfl (sx_of (se_op os_div (se_op os_ix (se_var (i := 2) (m := (.own .fr)) rfl) (se_var (i := 7) (m := .fr) rfl)) se_int)) (se_var (i := 7) (m := .fr) rfl) rfl)) (ss_seq (ss_seti (i := 4) (m := .fr) rfl (sx_of (se_op os_mod (se_cb cs_int (sa_cons (se_fr (se_op os_add (se_fr (se_op os_add (se_op os_mul (se_op os_ix (se_var (i := 4) (m := (.own .fr)) rfl) (se_var (i := 7) (m := .fr) rfl)) se_int) se_int) rfl) (se_op os_mul se_int (se_var (i := 6) (m := .fr) rfl))) rfl) sa_nil)) se_int)) (se_var (i := 7) (m := .fr) rfl) rfl) (ss_expr (sx_app (i := 5) (m := .fr) rfl (sx_of (se_op os_mod (se_cb cs_int (sa_cons (se_fr (se_op os_add (se_op os_ix (se_var (i := 2) (m := (.own .fr)) rfl) (se_var (i := 7) (m := .fr) rfl)) (se_op os_div (se_op os_ix (se_var (i := 4) (m := (.own .fr)) rfl) (se_var (i := 7) (m := .fr) rfl)) se_int)) rfl) sa_nil)) se_int)) rfl)))))) (ss_ret (Γ' := [.sc, .fr, (.own .fr), .fr, (.own .fr), (.own .fr), .fr, .fr]) (sx_move (i := 5) (m := (.own .fr)) rfl)))))))
theorem ok__law_lowest (T : Tp P K mg) : FnOk P w K mg base CX0 1 T.a__law_lowest T.fd__law_lowest ["_law_p", "_law_q"] (spD K mg X0 [.fr, .fr] .fr m__law_lowest) := by
  refine fnD (N := N__law_lowest) (pm := [.fr, .fr]) (Γl := [.fr, .fr, .fr]) T.F__law_lowest sc__law_lowest rfl rfl rfl fun cdv A outer s H E hr => ⟨_, (pss_cons (ps_if (pt_cmpR op_lt (pv 1) pe_int (nomark _)) (pss_one (ps_par (i := 0) (j := 1) (by rfl) sc__law_lowest.nd rfl rfl (by decide) rfl rfl (pa_cons (pe_un un_neg (pv 0)) (pa_cons (pe_un un_neg (pv 1)) pa_nil)) (by rfl))) pss_nil) (pss_cons (ps_par (i := 2) (j := 3) (by rfl) sc__law_lowest.nd rfl rfl (by decide) rfl rfl (pa_cons (pe_callB call_abs (by rfl) T.z_abs (by decide +kernel) (pa_cons (pv 0) pa_nil)) (pa_cons (pv 1) pa_nil)) (by rfl)) (pss_cons (ps_for PassesOwn.never rfl (pi_range1 rfl T.z_range (pa_cons pe_int pa_nil)) (pg_name (i := 4) sc__law_lowest.nd rfl (by first | exact Or.inl rfl | exact Or.inr rfl)) (pss_cons (ps_if (pt_cmpR (kx_eq (K := K) rfl hr.units) (pv 3) pe_int (nomark _)) (pss_one ps_break) pss_nil) (pss_one (ps_par (i := 2) (j := 3) (by rfl) sc__law_lowest.nd rfl rfl (by decide) rfl rfl (pa_cons (pv 3) (pa_cons (pe_op op_modX (pe_callTy call_int1 (by rfl) T.z_int (by decide +kernel) (pa_cons (pv 2) pa_nil)) (pv 3)) pa_nil)) (by rfl))))) (pss_one (ps_ret (pe_tup (pa_cons (pe_op op_divX (pv 0) (pv 2)) (pa_cons (pe_op op_divX (pv 1) (pv 2)) pa_nil)))))))), fun Bp F0 => ⟨[.fr, .fr, .fr, .fr, .fr], ?_⟩⟩
  unfold b__law_lowest
  exact (ss_seq (ss_if (st_tt (se_op os_lt (se_var (i := 1) (m := .fr) rfl) se_int)) (ss_par (i := 0) (j := 1) (sa_cons (se_neg (se_var (i := 0) (m := .fr) rfl)) (sa_cons (se_neg (se_var (i := 1) (m := .fr) rfl)) sa_nil)) (by decide) (by decide) nio2) ss_nil) (ss_seq (ss_par (i := 2) (j := 3) (sa_cons (se_cb cs_abs (sa_cons (se_var (i := 0) (m := .fr) rfl) sa_nil)) (sa_cons (se_var (i := 1) (m := .fr) rfl) sa_nil)) (by decide) (by decide) nio2) (ss_seq (ss_for (si_rng1 (sa_cons se_int sa_nil)) (sn_name (i := 4) (m := .fr) rfl nio) nx_name (ss_seq (ss_if (st_tt (se_op os_eq (se_var (i := 3) (m := .fr) rfl) se_int)) (ss_brk (Γ' := [.fr, .fr, .fr, .fr, .fr])) ss_nil) (ss_par (i := 2) (j := 3) (sa_cons (se_var (i := 3) (m := .fr) rfl) (sa_cons (se_op os_mod (se_cb cs_int (sa_cons (se_var (i := 2) (m := .fr) rfl) sa_nil)) (se_var (i := 3) (m := .fr) rfl)) sa_nil)) (by decide) (by decide) nio2))) (ss_ret (Γ' := [.fr, .fr, .fr, .fr, .fr]) (sx_of (se_tup (sa_cons (se_op os_div (se_var (i := 0) (m := .fr) rfl) (se_var (i := 2) (m := .fr) rfl)) (sa_cons (se_op os_div (se_var (i := 1) (m := .fr) rfl) (se_var (i := 2) (m := .fr) rfl)) sa_nil)) (by decide)))))))
theorem ok__law_plus (T : Tp P K mg) : FnOk P w K mg base CX0 2 T.a__law_plus T.fd__law_plus ["_law_first", "_law_second"] (spD K mg X0 [.fr, .fr] .fr m__law_plus) := by
  have G__law_lowest := ok__law_lowest (P := P) (w := w) (base := base) T
  refine fnD (N := N__law_plus) (pm := [.fr, .fr]) (Γl := []) T.F__law_plus sc__law_plus rfl rfl rfl fun cdv A outer s H E hr => ⟨_, (pss_one (ps_ret (pe_call G__law_lowest (hr.mono (by decide)) (by rfl) T.g__law_lowest T.F__law_lowest.kp T.b__law_lowest .nil pass0 (pa_cons (pe_op op_addX (pe_op op_mulX (pe_ix (kx_ix (K := K) rfl) (pv 0) pe_int (fun _ _ => rfl)) (pe_ix (kx_ix (K := K) rfl) (pv 1) pe_int (fun _ _ => rfl))) (pe_op op_mulX (pe_ix (kx_ix (K := K) rfl) (pv 1) pe_int (fun _ _ => rfl)) (pe_ix (kx_ix (K := K) rfl) (pv 0) pe_int (fun _ _ => rfl)))) (pa_cons (pe_op op_mulX (pe_ix (kx_ix (K := K) rfl) (pv 0) pe_int (fun _ _ => rfl)) (pe_ix (kx_ix (K := K) rfl) (pv 1) pe_int (fun _ _ => rfl))) pa_nil))))), fun Bp F0 => ⟨[.fr, .fr], ?_⟩⟩
  unfold b__law_plus
  exact (ss_ret (Γ' := [.fr, .fr]) (sx_of (se_call (sa_cons (se_fr (se_op os_add (se_op os_mul (se_op os_ix (se_var (i := 0) (m := .fr) rfl) se_int) (se_op os_ix (se_var (i := 1) (m := .fr) rfl) se_int)) (se_op os_mul (se_op os_ix (se_var (i := 1) (m := .fr) rfl) se_int) (se_op os_ix (se_var (i := 0) (m := .fr) rfl) se_int))) rfl) (sa_cons (se_op os_mul (se_op os_ix (se_var (i := 0) (m := .fr) rfl) se_int) (se_op os_ix (se_var (i := 1) (m := .fr) rfl) se_int)) sa_nil)) hx0)))
theorem ok__law_times (T : Tp P K mg) : FnOk P w K mg base CX0 2 T.a__law_times T.fd__law_times ["_law_first", "_law_second"] (spD K mg X0 [.fr, .fr] .fr m__law_times) := by
  have G__law_lowest := ok__law_lowest (P := P) (w := w) (base := base) T
  refine fnD (N := N__law_times) (pm := [.fr, .fr]) (Γl := []) T.F__law_times sc__law_times rfl rfl rfl fun cdv A outer s H E hr => ⟨_, (pss_one (ps_ret (pe_call G__law_lowest (hr.mono (by decide)) (by rfl) T.g__law_lowest T.F__law_lowest.kp T.b__law_lowest .nil pass0 (pa_cons (pe_op op_mulX (pe_ix (kx_ix (K := K) rfl) (pv 0) pe_int (fun _ _ => rfl)) (pe_ix (kx_ix (K := K) rfl) (pv 1) pe_int (fun _ _ => rfl))) (pa_cons (pe_op op_mulX (pe_ix (kx_ix (K := K) rfl) (pv 0) pe_int (fun _ _ => rfl)) (pe_ix (kx_ix (K := K) rfl) (pv 1) pe_int (fun _ _ => rfl))) pa_nil))))), fun Bp F0 => ⟨[.fr, .fr], ?_⟩⟩
  unfold b__law_times
  exact (ss_ret (Γ' := [.fr, .fr]) (sx_of (se_call (sa_cons (se_op os_mul (se_op os_ix (se_var (i := 0) (m := .fr) rfl) se_int) (se_op os_ix (se_var (i := 1) (m := .fr) rfl) se_int)) (sa_cons (se_op os_mul (se_op os_ix (se_var (i := 0) (m := .fr) rfl) se_int) (se_op os_ix (se_var (i := 1) (m := .fr) rfl) se_int)) sa_nil)) hx0)))
theorem ok__law_less (T : Tp P K mg) : FnOk P w K mg base CX0 1 T.a__law_less T.fd__law_less ["_law_first", "_law_second"] (spD K mg X0 [.fr, .fr] .fr m__law_less) := by
  refine fnD (N := N__law_less) (pm := [.fr, .fr]) (Γl := []) T.F__law_less sc__law_less rfl rfl rfl fun cdv A outer s H E hr => ⟨_, (pss_one (ps_ret (pe_cmpR op_lt (pe_op op_mulX (pe_ix (kx_ix (K := K) rfl) (pv 0) pe_int (fun _ _ => rfl)) (pe_ix (kx_ix (K := K) rfl) (pv 1) pe_int (fun _ _ => rfl))) (pe_op op_mulX (pe_ix (kx_ix (K := K) rfl) (pv 1) pe_int (fun _ _ => rfl)) (pe_ix (kx_ix (K := K) rfl) (pv 0) pe_int (fun _ _ => rfl))) (nomark _)))), fun Bp F0 => ⟨[.fr, .fr], ?_⟩⟩
  unfold b__law_less
  exact (ss_ret (Γ' := [.fr, .fr]) (sx_of (se_op os_lt (se_op os_mul (se_op os_ix (se_var (i := 0) (m := .fr) rfl) se_int) (se_op os_ix (se_var (i := 1) (m := .fr) rfl) se_int)) (se_op os_mul (se_op os_ix (se_var (i := 1) (m := .fr) rfl) se_int) (se_op os_ix (se_var (i := 0) (m := .fr) rfl) se_int)))))
theorem ok__law_added (T : Tp P K mg) : FnOk P w K mg base CX0 3 T.a__law_added T.fd__law_added ["_law_rows"] (spD K mg X0 [.fr] .fr m__law_added) := by
  have G__law_plus := ok__law_plus (P := P) (w := w) (base := base) T
  refine fnD (N := N__law_added) (pm := [.fr]) (Γl := [.fr, .fr]) T.F__law_added sc__law_added rfl rfl rfl fun cdv A outer s H E hr => ⟨_, (pss_cons (ps_set (i := 1) sc__law_added.nd rfl (by first | exact Or.inl rfl | exact Or.inr rfl) (pe_tup (pa_cons pe_int (pa_cons pe_int pa_nil)))) (pss_cons (ps_for PassesOwn.never rfl (kx_seq (K := K) rfl (pv 0)) (pg_name (i := 2) sc__law_added.nd rfl (by first | exact Or.inl rfl | exact Or.inr rfl)) (pss_one (ps_set (i := 1) sc__law_added.nd rfl (by first | exact Or.inl rfl | exact Or.inr rfl) (pe_call G__law_plus (hr.mono (by decide)) (by rfl) T.g__law_plus T.F__law_plus.kp T.b__law_plus .nil pass0 (pa_cons (pv 1) (pa_cons (pv 2) pa_nil)))))) (pss_one (ps_ret (pv 1))))), fun Bp F0 => ⟨[.fr, .fr, .fr], ?_⟩⟩
  unfold b__law_added
  exact (ss_seq (ss_set (i := 1) (m := .fr) (sx_of (se_tup (sa_cons se_int (sa_cons se_int sa_nil)) (by decide))) (by decide) nio) (ss_seq (ss_for (si_seqS (se_var (i := 0) (m := .fr) rfl)) (sn_name (i := 2) (m := .fr) rfl nio) nx_name (ss_set (i := 1) (m := .fr) (sx_of (se_call (sa_cons (se_var (i := 1) (m := .fr) rfl) (sa_cons (se_var (i := 2) (m := .fr) rfl) sa_nil)) hx0)) (by decide) nio)) (ss_ret (Γ' := [.fr, .fr, .fr]) (sx_of (se_var (i := 1) (m := .fr) rfl)))))
theorem ok__law_sets (T : Tp P K mg) : FnOk P w K mg base CX0 1 T.a__law_sets T.fd__law_sets ["_law_numbers_here", "_law_at", "_law_most", "_law_many"] (spD K mg X0 [.fr, .fr, .fr, .fr] .fr m__law_sets) := by
  refine fnD (N := N__law_sets) (pm := [.fr, .fr, .fr, .fr]) (Γl := [.fr, (.own .fr), .fr, .fr, .fr, .fr, .fr, .fr]) T.F__law_sets sc__law_sets rfl rfl rfl fun cdv A outer s H E hr => ⟨_, (pss_cons (ps_set (i := 4) sc__law_sets.nd rfl (by first | exact Or.inl rfl | exact Or.inr rfl) (pe_op op_addX pe_int (pe_op op_modX (pe_callTy call_int1 (by rfl) T.z_int (by decide +kernel) (pa_cons (pe_ix (kx_ix (K := K) rfl) (pv 0) (pv 1) (fun _ _ => rfl)) pa_nil)) (pv 2)))) (pss_cons (ps_set (i := 5) sc__law_sets.nd rfl (by first | exact Or.inl rfl | exact Or.inr rfl) (pe_lst pa_nil)) (pss_cons (ps_for PassesOwn.never rfl (pi_range1 rfl T.z_range (pa_cons (pe_op op_addX pe_int (pe_op op_modX (pe_callTy call_int1 (by rfl) T.z_int (by decide +kernel) (pa_cons (pe_ix (kx_ix (K := K) rfl) (pv 0) (pe_op op_addX (pv 1) pe_int) (fun _ _ => rfl)) pa_nil)) (pv 3))) pa_nil)) (pg_name (i := 6) sc__law_sets.nd rfl (by first | exact Or.inl rfl | exact Or.inr rfl)) (pss_cons (ps_set (i := 7) sc__law_sets.nd rfl (by first | exact Or.inl rfl | exact Or.inr rfl) (pe_callTy call_int1 (by rfl) T.z_int (by decide +kernel) (pa_cons (pe_ix (kx_ix (K := K) rfl) (pv 0) (pe_op op_addX (pe_op op_addX (pv 1) pe_int) (pv 6)) (fun _ _ => rfl)) pa_nil))) (pss_cons (ps_setLc (i := 8) (own := [("_law_one", 9)]) (g := (L2.gName 9)) rfl sc__law_sets.nd rfl rfl (sw_true rfl rfl rfl (by decide +kernel)) (pi_range1 rfl T.z_range (pa_cons (pv 4) pa_nil)) (blkOk_by (own := [("_law_one", 9)]) (N := N__law_sets) (sc := defScope s__law_sets) (by decide +kernel)) (fun _ _ _ _ _ => (pg_name (i := 9) sc__law_sets.nd rfl (by first | exact Or.inl rfl | exact Or.inr rfl))) (fun _ _ _ _ _ => pts_one (pt_cmpR op_lt (pe_op op_modX (pe_op op_divX (pe_callTy call_int1 (by rfl) T.z_int (by decide +kernel) (pa_cons (pe_ix (kx_ix (K := K) rfl) (pv 0) (pe_op op_addX (pe_op op_addX (pv 1) pe_int) (pe_op op_modX (pe_callTy call_int1 (by rfl) T.z_int (by decide +kernel) (pa_cons (pe_op op_addX (pv 9) (pe_op op_mulX pe_int (pv 6))) pa_nil)) pe_int)) (fun _ _ => rfl)) pa_nil)) (pe_op op_addX pe_int (pe_op op_modX (pv 7) pe_int))) pe_int) pe_int (nomark _))) (fun _ _ _ _ _ => (pv 9))) (pss_one (ps_expr (pe_bm PySem.F.plainAttrs_list PySem.F.slot_list_append PySem.F.type_list_append mt_append (pv 5) (pa_cons (pe_tup (pa_cons (pv 8) (pa_cons (pe_op op_addX (pe_ix (kx_ix (K := K) rfl) (pe_lst (pa_cons pe_int (pa_cons pe_int (pa_cons pe_int (pa_cons pe_int (pa_cons pe_int (pa_cons pe_int (pa_cons pe_int (pa_cons pe_int pa_nil))))))))) (pe_op op_modX (pe_op op_divX (pv 7) pe_int) pe_int) (fun _ _ => rfl)) (pe_op op_modX (pe_op op_divX (pv 7) pe_int) pe_int)) pa_nil))) pa_nil))))))) (pss_cons (ps_if (pt_cmpR op_gt (pe_op op_modX (pe_callTy call_int1 (by rfl) T.z_int (by decide +kernel) (pa_cons (pe_ix (kx_ix (K := K) rfl) (pv 0) (pe_op op_addX (pv 1) pe_int) (fun _ _ => rfl)) pa_nil)) pe_int) pe_int (nomark _)) (pss_cons (ps_setLc (i := 10) (own := [("_law_one", 9)]) (g := (L2.gName 9)) rfl sc__law_sets.nd rfl rfl (sw_true rfl rfl rfl (by decide +kernel)) (pi_range1 rfl T.z_range (pa_cons (pv 4) pa_nil)) (blkOk_by (own := [("_law_one", 9)]) (N := N__law_sets) (sc := defScope s__law_sets) (by decide +kernel)) (fun _ _ _ _ _ => (pg_name (i := 9) sc__law_sets.nd rfl (by first | exact Or.inl rfl | exact Or.inr rfl))) (fun _ _ _ _ _ => pts_one (pt_cmpR (kx_eq (K := K) rfl hr.units) (pe_callB (kx_len (K := K) rfl) (by rfl) T.z_len (by decide +kernel) (pa_cons (pe_lc (own := [("_law_members", 8), ("_law_price", 11)]) (g := (L2.gTup _ 2 (L2.gCons (L2.gName 8) (L2.gCons (L2.gName 11) L2.gNil)))) rfl sc__law_sets.nd (kx_seq (K := K) rfl (pv 5)) (blkOk_by (own := [("_law_members", 8), ("_law_price", 11)]) (by kernel_rfl)) (fun _ _ _ _ _ => (pg_tup rfl (pgs_cons (pg_name (i := 8) sc__law_sets.nd rfl (by first | exact Or.inl rfl | exact Or.inr rfl)) (pgs_cons (pg_name (i := 11) sc__law_sets.nd rfl (by first | exact Or.inl rfl | exact Or.inr rfl)) pgs_nil)))) (fun _ _ _ _ _ => pts_one (pt_cmpR (kx_in (K := K) rfl hr.units65) (pv 9) (pv 8) (by rfl))) (fun _ _ _ _ _ => pe_int)) pa_nil)) pe_int (nomark _))) (fun _ _ _ _ _ => (pv 9))) (pss_cons (ps_set (i := 6) sc__law_sets.nd rfl (by first | exact Or.inl rfl | exact Or.inr rfl) (pe_op op_modX (pe_callTy call_int1 (by rfl) T.z_int (by decide +kernel) (pa_cons (pe_ix (kx_ix (K := K) rfl) (pv 0) (pe_op op_addX (pv 1) pe_int) (fun _ _ => rfl)) pa_nil)) (pe_callB (kx_len (K := K) rfl) (by rfl) T.z_len (by decide +kernel) (pa_cons (pv 5) pa_nil)))) (pss_one (ps_asg (pe_tup (pa_cons (pe_callB (kx_sorted (K := K) rfl) (by rfl) T.z_sorted (by decide +kernel) (pa_cons (pe_op op_addX (pe_ix (kx_ix (K := K) rfl) (pe_ix (kx_ix (K := K) rfl) (pv 5) (pv 6) (fun _ _ => rfl)) pe_int (fun _ _ => rfl)) (pv 10)) pa_nil)) (pa_cons (pe_ix (kx_ix (K := K) rfl) (pe_ix (kx_ix (K := K) rfl) (pv 5) (pv 6) (fun _ _ => rfl)) pe_int (fun _ _ => rfl)) pa_nil))) (pg_sub (pv 5) (pv 6) set_list))))) pss_nil) (pss_one (ps_ret (pe_tup (pa_cons (pv 4) (pa_cons (pv 5) pa_nil))))))))), fun Bp F0 => ⟨[.fr, .fr, .fr, .fr, .fr, (.own .fr), .fr, .fr, .fr, .fr, .fr, .fr], ?_⟩⟩
  unfold b__law_sets
  exact (ss_seq (ss_set (i := 4) (m := .fr) (sx_of (se_fr (se_op os_add se_int (se_op os_mod (se_cb cs_int (sa_cons (se_op os_ix (se_var (i := 0) (m := .fr) rfl) (se_var (i := 1) (m := .fr) rfl)) sa_nil)) (se_var (i := 2) (m := .fr) rfl))) rfl)) (by decide) nio) (ss_seq (ss_set (i := 5) (m := (.own .fr)) (sx_of (se_lst (m := .fr) sa_nil (by decide))) (by decide) nio) (ss_seq (ss_for (si_rng1 (sa_cons (se_fr (se_op os_add se_int (se_op os_mod (se_cb cs_int (sa_cons (se_op os_ix (se_var (i := 0) (m := .fr) rfl) (se_fr (se_op os_add (se_var (i := 1) (m := .fr) rfl) se_int) rfl)) sa_nil)) (se_var (i := 3) (m := .fr) rfl))) rfl) sa_nil)) (sn_name (i := 6) (m := .fr) rfl nio) nx_name (ss_seq (ss_set (i := 7) (m := .fr) (sx_of (se_cb cs_int (sa_cons (se_op os_ix (se_var (i := 0) (m := .fr) rfl) (se_fr (se_op os_add (se_fr (se_op os_add (se_var (i := 1) (m := .fr) rfl) se_int) rfl) (se_var (i := 6) (m := .fr) rfl)) rfl)) sa_nil))) (by decide) nio) (ss_seq (ss_set (i := 8) (sx_of (se_fr (se_lc (vs := [9]) (si_rng1 (sa_cons (se_var (i := 4) (m := .fr) rfl) sa_nil)) (sn_name (i := 9) (m := .fr) rfl nio) (keeps_name (by decide)) nx_name (by decide) (st_tt (se_op os_lt (se_op os_mod (se_op os_div (se_cb cs_int (sa_cons (se_op os_ix (se_var (i := 0) (m := .fr) rfl) (se_fr (se_op os_add (se_fr (se_op os_add (se_var (i := 1) (m := .fr) rfl) se_int) rfl) (se_op os_mod (se_cb cs_int (sa_cons (se_fr (se_op os_add (se_var (i := 9) (m := .fr) rfl) (se_op os_mul se_int (se_var (i := 6) (m := .fr) rfl))) rfl) sa_nil)) se_int)) rfl)) sa_nil)) (se_fr (se_op os_add se_int (se_op os_mod (se_var (i := 7) (m := .fr) rfl) se_int)) rfl)) se_int) se_int)) (se_var (i := 9) (m := .fr) rfl) rfl rfl nioL) rfl)) (by decide) nio) (ss_expr (sx_app (i := 5) (m := .fr) rfl (sx_of (se_tup (sa_cons (se_var (i := 8) (m := .fr) rfl) (sa_cons (se_fr (se_op os_add (se_op os_ix (se_fr (se_lst (m := .fr) (sa_cons se_int (sa_cons se_int (sa_cons se_int (sa_cons se_int (sa_cons se_int (sa_cons se_int (sa_cons se_int (sa_cons se_int sa_nil)))))))) (by decide)) rfl) (se_op os_mod (se_op os_div (se_var (i := 7) (m := .fr) rfl) se_int) se_int)) (se_op os_mod (se_op os_div (se_var (i := 7) (m := .fr) rfl) se_int) se_int)) rfl) sa_nil)) (by decide))) rfl))))) (ss_seq (ss_if (st_tt (se_op os_gt (se_op os_mod (se_cb cs_int (sa_cons (se_op os_ix (se_var (i := 0) (m := .fr) rfl) (se_fr (se_op os_add (se_var (i := 1) (m := .fr) rfl) se_int) rfl)) sa_nil)) se_int) se_int)) (ss_seq (ss_set (i := 10) (sx_of (se_fr (se_lc (vs := [9]) (si_rng1 (sa_cons (se_var (i := 4) (m := .fr) rfl) sa_nil)) (sn_name (i := 9) (m := .fr) rfl nio) (keeps_name (by decide)) nx_name (by decide) (st_tt (se_op os_eq (se_cb cs_len (sa_cons (se_fr (se_lc (vs := [8, 11]) (si_seqC (se_var (i := 5) (m := (.own .fr)) rfl)) (sn_tup (m := .fr) (is := [8, 11]) (Names.cons (Names.cons Names.nil)) (by decide) nioL) (keeps_tup (by decide)) nx_tup (by decide) (st_tt (se_op os_in (se_var (i := 9) (m := .fr) rfl) (se_var (i := 8) (m := .fr) rfl))) se_int rfl rfl nioL) rfl) sa_nil)) se_int)) (se_var (i := 9) (m := .fr) rfl) rfl rfl nioL) rfl)) (by decide) nio) (ss_seq (ss_set (i := 6) (m := .fr) (sx_of (se_op os_mod (se_cb cs_int (sa_cons (se_op os_ix (se_var (i := 0) (m := .fr) rfl) (se_fr (se_op os_add (se_var (i := 1) (m := .fr) rfl) se_int) rfl)) sa_nil)) (se_cb cs_len (sa_cons (se_var (i := 5) (m := (.own .fr)) rfl) sa_nil)))) (by decide) nio) (ss_seti (i := 5) (m := .fr) rfl (sx_of (se_tup (sa_cons (se_fr (se_cb cs_sorted (sa_cons (se_fr (se_op os_add (se_op os_ix (se_op os_ix (se_var (i := 5) (m := (.own .fr)) rfl) (se_var (i := 6) (m := .fr) rfl)) se_int) (se_var (i := 10) (m := .fr) rfl)) rfl) sa_nil)) rfl) (sa_cons (se_op os_ix (se_op os_ix (se_var (i := 5) (m := (.own .fr)) rfl) (se_var (i := 6) (m := .fr) rfl)) se_int) sa_nil)) (by decide))) (se_var (i := 6) (m := .fr) rfl) rfl))) ss_nil) (ss_ret (Γ' := [.fr, .fr, .fr, .fr, .fr, (.own .fr), .fr, .fr, .fr, .fr, .fr, .fr]) (sx_tup (sxa_cons (sx_of (se_var (i := 4) (m := .fr) rfl)) (sxa_cons (sx_fr (sx_move (i := 5) (m := (.own .fr)) rfl) rfl) sxa_nil)) (by decide)))))))
theorem ok__law_part (T : Tp P K mg) : FnOk P w K mg base CX0 4 T.a__law_part T.fd__law_part ["_law_many"] (spD K mg X0 [.fr] .fr m__law_part) := by
  have G__law_added := ok__law_added (P := P) (w := w) (base := base) T
  refine fnD (N := N__law_part) (pm := [.fr]) (Γl := [.fr]) T.F__law_part sc__law_part rfl rfl rfl fun cdv A outer s H E hr => ⟨_, (pss_one (ps_ret (pe_call G__law_added (hr.mono (by decide)) (by rfl) T.g__law_added T.F__law_added.kp T.b__law_added .nil pass0 (pa_cons (pe_lc (own := [("_law_part_here", 1)]) (g := (L2.gName 1)) rfl sc__law_part.nd (pi_range2 rfl T.z_range (pa_cons pe_int (pa_cons (pe_op op_addX (pv 0) pe_int) pa_nil))) (blkOk_by (own := [("_law_part_here", 1)]) (N := N__law_part) (sc := defScope s__law_part) (by decide +kernel)) (fun _ _ _ _ _ => (pg_name (i := 1) sc__law_part.nd rfl (by first | exact Or.inl rfl | exact Or.inr rfl))) (fun _ _ _ _ _ => pts_nil) (fun _ _ _ _ _ => (pe_tup (pa_cons pe_int (pa_cons (pv 1) pa_nil))))) pa_nil)))), fun Bp F0 => ⟨[.fr, .fr], ?_⟩⟩
  unfold b__law_part
  exact (ss_ret (Γ' := [.fr, .fr]) (sx_of (se_call (sa_cons (se_fr (se_lc (vs := [1]) (si_rng2 (sa_cons se_int (sa_cons (se_fr (se_op os_add (se_var (i := 0) (m := .fr) rfl) se_int) rfl) sa_nil))) (sn_name (i := 1) (m := .fr) rfl nio) (keeps_name (by decide)) nx_name (by decide) st_yes (se_tup (sa_cons se_int (sa_cons (se_var (i := 1) (m := .fr) rfl) sa_nil)) (by decide)) rfl rfl nioL) rfl) sa_nil) hx0)))
theorem ok__law_due (T : Tp P K mg) : FnOk P w K mg base CX0 5 T.a__law_due T.fd__law_due ["_law_size", "_law_sets_here", "_law_taken", "_law_shares"] (spD K mg X0 [.fr, .fr, .fr, .fr] .fr m__law_due) := by
  have G__law_part := ok__law_part (P := P) (w := w) (base := base) T
  have G__law_times := ok__law_times (P := P) (w := w) (base := base) T
  have G__law_added := ok__law_added (P := P) (w := w) (base := base) T
  have G__law_less := ok__law_less (P := P) (w := w) (base := base) T
  refine fnD (N := N__law_due) (pm := [.fr, .fr, .fr, .fr]) (Γl := [.fr, .fr, .fr, .fr, .fr]) T.F__law_due sc__law_due rfl rfl rfl fun cdv A outer s H E hr => ⟨_, (pss_cons (ps_if (PW.pt (pw_or (pt_cmpR (kx_ne (K := K) rfl hr.units) (pe_callB (kx_len (K := K) rfl) (by rfl) T.z_len (by decide +kernel) (pa_cons (pv 3) pa_nil)) (pv 0) (nomark _)) (pw_or1 (pt_cmpR op_gt (pe_callB (kx_len (K := K) rfl) (by rfl) T.z_len (by decide +kernel) (pa_cons (pe_lc (own := [("_law_k", 4)]) (g := (L2.gName 4)) rfl sc__law_due.nd (kx_seq (K := K) rfl (pv 2)) (blkOk_by (own := [("_law_k", 4)]) (N := N__law_due) (sc := defScope s__law_due) (by decide +kernel)) (fun _ _ _ _ _ => (pg_name (i := 4) sc__law_due.nd rfl (by first | exact Or.inl rfl | exact Or.inr rfl))) (fun _ _ _ _ _ => pts_one (pt_not (pt_chain op_le op_lt pe_int (pv 4) (pe_callB (kx_len (K := K) rfl) (by rfl) T.z_len (by decide +kernel) (pa_cons (pv 1) pa_nil))))) (fun _ _ _ _ _ => (pv 4))) pa_nil)) pe_int (nomark _))))) (pss_one (ps_ret pe_bl)) pss_nil) (pss_cons (ps_if (pt_cmpR op_gt (pe_callB (kx_len (K := K) rfl) (by rfl) T.z_len (by decide +kernel) (pa_cons (pe_lc (own := [("_law_j", 5)]) (g := (L2.gName 5)) rfl sc__law_due.nd (pi_range1 rfl T.z_range (pa_cons (pe_callB (kx_len (K := K) rfl) (by rfl) T.z_len (by decide +kernel) (pa_cons (pv 2) pa_nil)) pa_nil)) (blkOk_by (own := [("_law_j", 5)]) (N := N__law_due) (sc := defScope s__law_due) (by decide +kernel)) (fun _ _ _ _ _ => (pg_name (i := 5) sc__law_due.nd rfl (by first | exact Or.inl rfl | exact Or.inr rfl))) (fun _ _ _ _ _ => pts_one (pt_cmpR (kx_in (K := K) rfl hr.units65) (pe_ix (kx_ix (K := K) rfl) (pv 2) (pv 5) (fun _ _ => rfl)) (pe_slice (kx_sl (K := K) rfl) (pv 2) po_none (po_some (pv 5))) (by rfl))) (fun _ _ _ _ _ => (pv 5))) pa_nil)) pe_int (nomark _)) (pss_one (ps_ret pe_bl)) pss_nil) (pss_cons (ps_for PassesOwn.never rfl (pi_range1 rfl T.z_range (pa_cons (pv 0) pa_nil)) (pg_name (i := 6) sc__law_due.nd rfl (by first | exact Or.inl rfl | exact Or.inr rfl)) (pss_one (ps_if (PW.pt (pw_or (pt_cmpR op_lt (pe_ix (kx_ix (K := K) rfl) (pe_ix (kx_ix (K := K) rfl) (pv 3) (pv 6) (fun _ _ => rfl)) pe_int (fun _ _ => rfl)) pe_int (nomark _)) (pw_or1 (pt_cmpR (kx_eq (K := K) rfl hr.units) (pe_callB (kx_len (K := K) rfl) (by rfl) T.z_len (by decide +kernel) (pa_cons (pe_lc (own := [("_law_k", 4)]) (g := (L2.gName 4)) rfl sc__law_due.nd (kx_seq (K := K) rfl (pv 2)) (blkOk_by (own := [("_law_k", 4)]) (N := N__law_due) (sc := defScope s__law_due) (by decide +kernel)) (fun _ _ _ _ _ => (pg_name (i := 4) sc__law_due.nd rfl (by first | exact Or.inl rfl | exact Or.inr rfl))) (fun _ _ _ _ _ => pts_one (pt_cmpR (kx_in (K := K) rfl hr.units65) (pv 6) (pe_ix (kx_ix (K := K) rfl) (pe_ix (kx_ix (K := K) rfl) (pv 1) (pv 4) (fun _ _ => rfl)) pe_int (fun _ _ => rfl)) (by rfl))) (fun _ _ _ _ _ => (pv 4))) pa_nil)) pe_int (nomark _))))) (pss_one (ps_ret pe_bl)) pss_nil))) (pss_cons (ps_for PassesOwn.never rfl (kx_seq (K := K) rfl (pv 1)) (pg_tup rfl (pgs_cons (pg_name (i := 7) sc__law_due.nd rfl (by first | exact Or.inl rfl | exact Or.inr rfl)) (pgs_cons (pg_name (i := 8) sc__law_due.nd rfl (by first | exact Or.inl rfl | exact Or.inr rfl)) pgs_nil))) (pss_one (ps_if (pt_val (pe_call G__law_less (hr.mono (by decide)) (by rfl) T.g__law_less T.F__law_less.kp T.b__law_less .nil pass0 (pa_cons (pe_call G__law_times (hr.mono (by decide)) (by rfl) T.g__law_times T.F__law_times.kp T.b__law_times .nil pass0 (pa_cons (pe_call G__law_part (hr.mono (by decide)) (by rfl) T.g__law_part T.F__law_part.kp T.b__law_part .nil pass0 (pa_cons (pe_callB (kx_len (K := K) rfl) (by rfl) T.z_len (by decide +kernel) (pa_cons (pv 7) pa_nil)) pa_nil)) (pa_cons (pe_tup (pa_cons (pv 8) (pa_cons pe_int pa_nil))) pa_nil))) (pa_cons (pe_call G__law_added (hr.mono (by decide)) (by rfl) T.g__law_added T.F__law_added.kp T.b__law_added .nil pass0 (pa_cons (pe_lc (own := [("_law_one", 6)]) (g := (L2.gName 6)) rfl sc__law_due.nd (kx_seq (K := K) rfl (pv 7)) (blkOk_by (own := [("_law_one", 6)]) (N := N__law_due) (sc := defScope s__law_due) (by decide +kernel)) (fun _ _ _ _ _ => (pg_name (i := 6) sc__law_due.nd rfl (by first | exact Or.inl rfl | exact Or.inr rfl))) (fun _ _ _ _ _ => pts_nil) (fun _ _ _ _ _ => (pe_ix (kx_ix (K := K) rfl) (pv 3) (pv 6) (fun _ _ => rfl)))) pa_nil)) pa_nil)))) (pss_one (ps_ret pe_bl)) pss_nil))) (pss_one (ps_ret (pe_cmpR (kx_eq (K := K) rfl hr.units) (pe_call G__law_added (hr.mono (by decide)) (by rfl) T.g__law_added T.F__law_added.kp T.b__law_added .nil pass0 (pa_cons (pv 3) pa_nil)) (pe_tup (pa_cons (pe_callB (kx_sum (K := K) rfl rfl) (by rfl) T.z_sum (by decide +kernel) (pa_cons (pe_lc (own := [("_law_k", 4)]) (g := (L2.gName 4)) rfl sc__law_due.nd (kx_seq (K := K) rfl (pv 2)) (blkOk_by (own := [("_law_k", 4)]) (N := N__law_due) (sc := defScope s__law_due) (by decide +kernel)) (fun _ _ _ _ _ => (pg_name (i := 4) sc__law_due.nd rfl (by first | exact Or.inl rfl | exact Or.inr rfl))) (fun _ _ _ _ _ => pts_nil) (fun _ _ _ _ _ => (pe_ix (kx_ix (K := K) rfl) (pe_ix (kx_ix (K := K) rfl) (pv 1) (pv 4) (fun _ _ => rfl)) pe_int (fun _ _ => rfl)))) pa_nil)) (pa_cons pe_int pa_nil))) (nomark _)))))))), fun Bp F0 => ⟨[.fr, .fr, .fr, .fr, .fr, .fr, .fr, .fr, .fr], ?_⟩⟩
  unfold b__law_due
  exact (ss_seq (ss_if (st_or (st_tt (se_op os_ne (se_cb cs_len (sa_cons (se_var (i := 3) (m := .fr) rfl) sa_nil)) (se_var (i := 0) (m := .fr) rfl))) (st_tt (se_op os_gt (se_cb cs_len (sa_cons (se_fr (se_lc (vs := [4]) (si_seqC (se_var (i := 2) (m := .fr) rfl)) (sn_name (i := 4) (m := .fr) rfl nio) (keeps_name (by decide)) nx_name (by decide) (st_not (st_tt (se_chain os_le os_lt se_int (se_var (i := 4) (m := .fr) rfl) (se_cb cs_len (sa_cons (se_var (i := 1) (m := .fr) rfl) sa_nil))))) (se_var (i := 4) (m := .fr) rfl) rfl rfl nioL) rfl) sa_nil)) se_int))) (ss_ret (Γ' := [.fr, .fr, .fr, .fr, .fr, .fr, .fr, .fr, .fr]) (sx_of se_bl)) ss_nil) (ss_seq (ss_if (st_tt (se_op os_gt (se_cb cs_len (sa_cons (se_fr (se_lc (vs := [5]) (si_rng1 (sa_cons (se_cb cs_len (sa_cons (se_var (i := 2) (m := .fr) rfl) sa_nil)) sa_nil)) (sn_name (i := 5) (m := .fr) rfl nio) (keeps_name (by decide)) nx_name (by decide) (st_tt (se_op os_in (se_op os_ix (se_var (i := 2) (m := .fr) rfl) (se_var (i := 5) (m := .fr) rfl)) (se_fr (se_sl (se_var (i := 2) (m := .fr) rfl) so_none (so_some (se_var (i := 5) (m := .fr) rfl))) rfl))) (se_var (i := 5) (m := .fr) rfl) rfl rfl nioL) rfl) sa_nil)) se_int)) (ss_ret (Γ' := [.fr, .fr, .fr, .fr, .fr, .fr, .fr, .fr, .fr]) (sx_of se_bl)) ss_nil) (ss_seq (ss_for (si_rng1 (sa_cons (se_var (i := 0) (m := .fr) rfl) sa_nil)) (sn_name (i := 6) (m := .fr) rfl nio) nx_name (ss_if (st_or (st_tt (se_op os_lt (se_op os_ix (se_op os_ix (se_var (i := 3) (m := .fr) rfl) (se_var (i := 6) (m := .fr) rfl)) se_int) se_int)) (st_tt (se_op os_eq (se_cb cs_len (sa_cons (se_fr (se_lc (vs := [4]) (si_seqC (se_var (i := 2) (m := .fr) rfl)) (sn_name (i := 4) (m := .fr) rfl nio) (keeps_name (by decide)) nx_name (by decide) (st_tt (se_op os_in (se_var (i := 6) (m := .fr) rfl) (se_op os_ix (se_op os_ix (se_var (i := 1) (m := .fr) rfl) (se_var (i := 4) (m := .fr) rfl)) se_int))) (se_var (i := 4) (m := .fr) rfl) rfl rfl nioL) rfl) sa_nil)) se_int))) (ss_ret (Γ' := [.fr, .fr, .fr, .fr, .fr, .fr, .fr, .fr, .fr]) (sx_of se_bl)) ss_nil)) (ss_seq (ss_for (si_seqS (se_var (i := 1) (m := .fr) rfl)) (sn_tup (m := .fr) (is := [7, 8]) (Names.cons (Names.cons Names.nil)) (by decide) nioL) nx_tup (ss_if (st_b (se_call (sa_cons (se_call (sa_cons (se_call (sa_cons (se_cb cs_len (sa_cons (se_var (i := 7) (m := .fr) rfl) sa_nil)) sa_nil) hx0) (sa_cons (se_tup (sa_cons (se_var (i := 8) (m := .fr) rfl) (sa_cons se_int sa_nil)) (by decide)) sa_nil)) hx0) (sa_cons (se_call (sa_cons (se_fr (se_lc (vs := [6]) (si_seqC (se_var (i := 7) (m := .fr) rfl)) (sn_name (i := 6) (m := .fr) rfl nio) (keeps_name (by decide)) nx_name (by decide) st_yes (se_op os_ix (se_var (i := 3) (m := .fr) rfl) (se_var (i := 6) (m := .fr) rfl)) rfl rfl nioL) rfl) sa_nil) hx0) sa_nil)) hx0)) (ss_ret (Γ' := [.fr, .fr, .fr, .fr, .fr, .fr, .fr, .fr, .fr]) (sx_of se_bl)) ss_nil)) (ss_ret (Γ' := [.fr, .fr, .fr, .fr, .fr, .fr, .fr, .fr, .fr]) (sx_of (se_op os_eq (se_call (sa_cons (se_var (i := 3) (m := .fr) rfl) sa_nil) hx0) (se_tup (sa_cons (se_cb cs_sum (sa_cons (se_fr (se_lc (vs := [4]) (si_seqC (se_var (i := 2) (m := .fr) rfl)) (sn_name (i := 4) (m := .fr) rfl nio) (keeps_name (by decide)) nx_name (by decide) st_yes (se_op os_ix (se_op os_ix (se_var (i := 1) (m := .fr) rfl) (se_var (i := 4) (m := .fr) rfl)) se_int) rfl rfl nioL) rfl) sa_nil)) (sa_cons se_int sa_nil)) (by decide)))))))))
theorem ok__law_least (T : Tp P K mg) : FnOk P w K mg base CX0 1 T.a__law_least T.fd__law_least ["_law_size", "_law_sets_here"] (spD K mg X0 [.fr, .fr] .fr m__law_least) := by
  refine fnD (N := N__law_least) (pm := [.fr, .fr]) (Γl := [.fr, .fr, .fr, .fr, .fr, .fr, .fr, .fr]) T.F__law_least sc__law_least rfl rfl rfl fun cdv A outer s H E hr => ⟨_, (pss_cons (ps_set (i := 2) sc__law_least.nd rfl (by first | exact Or.inl rfl | exact Or.inr rfl) pe_non) (pss_cons (ps_for PassesOwn.never rfl (pi_range1 rfl T.z_range (pa_cons (pe_op op_shl pe_int (pe_callB (kx_len (K := K) rfl) (by rfl) T.z_len (by decide +kernel) (pa_cons (pv 1) pa_nil))) pa_nil)) (pg_name (i := 3) sc__law_least.nd rfl (by first | exact Or.inl rfl | exact Or.inr rfl)) (pss_cons (ps_set (i := 4) sc__law_least.nd rfl (by first | exact Or.inl rfl | exact Or.inr rfl) (pe_lc (own := [("_law_k", 5)]) (g := (L2.gName 5)) rfl sc__law_least.nd (pi_range1 rfl T.z_range (pa_cons (pe_callB (kx_len (K := K) rfl) (by rfl) T.z_len (by decide +kernel) (pa_cons (pv 1) pa_nil)) pa_nil)) (blkOk_by (own := [("_law_k", 5)]) (N := N__law_least) (sc := defScope s__law_least) (by decide +kernel)) (fun _ _ _ _ _ => (pg_name (i := 5) sc__law_least.nd rfl (by first | exact Or.inl rfl | exact Or.inr rfl))) (fun _ _ _ _ _ => pts_one (pt_cmpR (kx_eq (K := K) rfl hr.units) (pe_op op_and (pe_op op_shr (pv 3) (pv 5)) pe_int) pe_int (nomark _))) (fun _ _ _ _ _ => (pe_ix (kx_ix (K := K) rfl) (pv 1) (pv 5) (fun _ _ => rfl))))) (pss_cons (ps_set (i := 6) sc__law_least.nd rfl (by first | exact Or.inl rfl | exact Or.inr rfl) (pe_callB (kx_sum (K := K) rfl rfl) (by rfl) T.z_sum (by decide +kernel) (pa_cons (pe_lc (own := [("_law_one", 7)]) (g := (L2.gName 7)) rfl sc__law_least.nd (kx_seq (K := K) rfl (pv 4)) (blkOk_by (own := [("_law_one", 7)]) (N := N__law_least) (sc := defScope s__law_least) (by decide +kernel)) (fun _ _ _ _ _ => (pg_name (i := 7) sc__law_least.nd rfl (by first | exact Or.inl rfl | exact Or.inr rfl))) (fun _ _ _ _ _ => pts_nil) (fun _ _ _ _ _ => (pe_ix (kx_ix (K := K) rfl) (pv 7) pe_int (fun _ _ => rfl)))) pa_nil))) (pss_one (ps_if (PW.pt (pw_or (pt_cmpR op_isN (pv 2) pe_non (nomark _)) (pw_or1 (pt_cmpR op_lt (pv 6) (pv 2) (nomark _))))) (pss_one (ps_if (pt_cmpR (kx_eq (K := K) rfl hr.units) (pe_callB (kx_len (K := K) rfl) (by rfl) T.z_len (by decide +kernel) (pa_cons (pe_lc (own := [("_law_one", 7)]) (g := (L2.gName 7)) rfl sc__law_least.nd (pi_range1 rfl T.z_range (pa_cons (pv 0) pa_nil)) (blkOk_by (own := [("_law_one", 7)]) (N := N__law_least) (sc := defScope s__law_least) (by decide +kernel)) (fun _ _ _ _ _ => (pg_name (i := 7) sc__law_least.nd rfl (by first | exact Or.inl rfl | exact Or.inr rfl))) (fun _ _ _ _ _ => pts_one (pt_cmpR (kx_eq (K := K) rfl hr.units) (pe_callB (kx_len (K := K) rfl) (by rfl) T.z_len (by decide +kernel) (pa_cons (pe_lc (own := [("_law_members", 8), ("_law_cost", 9)]) (g := (L2.gTup _ 2 (L2.gCons (L2.gName 8) (L2.gCons (L2.gName 9) L2.gNil)))) rfl sc__law_least.nd (kx_seq (K := K) rfl (pv 4)) (blkOk_by (own := [("_law_members", 8), ("_law_cost", 9)]) (by kernel_rfl)) (fun _ _ _ _ _ => (pg_tup rfl (pgs_cons (pg_name (i := 8) sc__law_least.nd rfl (by first | exact Or.inl rfl | exact Or.inr rfl)) (pgs_cons (pg_name (i := 9) sc__law_least.nd rfl (by first | exact Or.inl rfl | exact Or.inr rfl)) pgs_nil)))) (fun _ _ _ _ _ => pts_one (pt_cmpR (kx_in (K := K) rfl hr.units65) (pv 7) (pv 8) (by rfl))) (fun _ _ _ _ _ => pe_int)) pa_nil)) pe_int (nomark _))) (fun _ _ _ _ _ => pe_int)) pa_nil)) pe_int (nomark _)) (pss_one (ps_set (i := 2) sc__law_least.nd rfl (by first | exact Or.inl rfl | exact Or.inr rfl) (pv 6))) pss_nil)) pss_nil))))) (pss_one (ps_ret (pv 2))))), fun Bp F0 => ⟨[.fr, .fr, .fr, .fr, .fr, .fr, .fr, .fr, .fr, .fr], ?_⟩⟩
  unfold b__law_least
  exact (ss_seq (ss_set (i := 2) (m := .fr) (sx_of se_non) (by decide) nio) (ss_seq (ss_for (si_rng1 (sa_cons (se_op os_shl se_int (se_cb cs_len (sa_cons (se_var (i := 1) (m := .fr) rfl) sa_nil))) sa_nil)) (sn_name (i := 3) (m := .fr) rfl nio) nx_name (ss_seq (ss_set (i := 4) (m := .fr) (sx_of (se_fr (se_lc (vs := [5]) (si_rng1 (sa_cons (se_cb cs_len (sa_cons (se_var (i := 1) (m := .fr) rfl) sa_nil)) sa_nil)) (sn_name (i := 5) (m := .fr) rfl nio) (keeps_name (by decide)) nx_name (by decide) (st_tt (se_op os_eq (se_op os_and (se_op os_shr (se_var (i := 3) (m := .fr) rfl) (se_var (i := 5) (m := .fr) rfl)) se_int) se_int)) (se_op os_ix (se_var (i := 1) (m := .fr) rfl) (se_var (i := 5) (m := .fr) rfl)) rfl rfl nioL) rfl)) (by decide) nio) (ss_seq (ss_set (i := 6) (m := .fr) (sx_of (se_cb cs_sum (sa_cons (se_fr (se_lc (vs := [7]) (si_seqC (se_var (i := 4) (m := .fr) rfl)) (sn_name (i := 7) (m := .fr) rfl nio) (keeps_name (by decide)) nx_name (by decide) st_yes (se_op os_ix (se_var (i := 7) (m := .fr) rfl) se_int) rfl rfl nioL) rfl) sa_nil))) (by decide) nio) (ss_if (st_or (st_tt (se_op os_isN (se_var (i := 2) (m := .fr) rfl) se_non)) (st_tt (se_op os_lt (se_var (i := 6) (m := .fr) rfl) (se_var (i := 2) (m := .fr) rfl)))) (ss_if (st_tt (se_op os_eq (se_cb cs_len (sa_cons (se_fr (se_lc (vs := [7]) (si_rng1 (sa_cons (se_var (i := 0) (m := .fr) rfl) sa_nil)) (sn_name (i := 7) (m := .fr) rfl nio) (keeps_name (by decide)) nx_name (by decide) (st_tt (se_op os_eq (se_cb cs_len (sa_cons (se_fr (se_lc (vs := [8, 9]) (si_seqC (se_var (i := 4) (m := .fr) rfl)) (sn_tup (m := .fr) (is := [8, 9]) (Names.cons (Names.cons Names.nil)) (by decide) nioL) (keeps_tup (by decide)) nx_tup (by decide) (st_tt (se_op os_in (se_var (i := 7) (m := .fr) rfl) (se_var (i := 8) (m := .fr) rfl))) se_int rfl rfl nioL) rfl) sa_nil)) se_int)) se_int rfl rfl nioL) rfl) sa_nil)) se_int)) (ss_set (i := 2) (m := .fr) (sx_of (se_var (i := 6) (m := .fr) rfl)) (by decide) nio) ss_nil) ss_nil)))) (ss_ret (Γ' := [.fr, .fr, .fr, .fr, .fr, .fr, .fr, .fr, .fr, .fr]) (sx_of (se_var (i := 2) (m := .fr) rfl)))))
theorem ok__law_changed (T : Tp P K mg) : FnOk P w K mg base CX0 3 T.a__law_changed T.fd__law_changed ["_law_numbers_here", "_law_at", "_law_size", "_law_sets_here", "_law_taken", "_law_shares"] (spD K mg X0 [.fr, .fr, .fr, .fr, .fr, .fr] .fr m__law_changed) := by
  have G__law_plus := ok__law_plus (P := P) (w := w) (base := base) T
  refine fnD (N := N__law_changed) (pm := [.fr, .fr, .fr, .fr, .fr, .fr]) (Γl := [.fr, .fr, .fr, .fr, .fr]) T.F__law_changed sc__law_changed rfl rfl rfl fun cdv A outer s H E hr => ⟨_, (pss_cons (ps_set (i := 4) sc__law_changed.nd rfl (by first | exact Or.inl rfl | exact Or.inr rfl) (pe_callTy (kx_list (K := K) rfl) (by rfl) T.z_list (by decide +kernel) (pa_cons (pv 4) pa_nil))) (pss_cons (ps_set (i := 5) sc__law_changed.nd rfl (by first | exact Or.inl rfl | exact Or.inr rfl) (pe_callTy (kx_list (K := K) rfl) (by rfl) T.z_list (by decide +kernel) (pa_cons (pv 5) pa_nil))) (pss_cons (ps_set (i := 6) sc__law_changed.nd rfl (by first | exact Or.inl rfl | exact Or.inr rfl) (pe_op op_modX (pe_callTy call_int1 (by rfl) T.z_int (by decide +kernel) (pa_cons (pe_ix (kx_ix (K := K) rfl) (pv 0) (pv 1) (fun _ _ => rfl)) pa_nil)) pe_int)) (pss_cons (ps_set (i := 7) sc__law_changed.nd rfl (by first | exact Or.inl rfl | exact Or.inr rfl) (pe_op op_modX (pe_callTy call_int1 (by rfl) T.z_int (by decide +kernel) (pa_cons (pe_ix (kx_ix (K := K) rfl) (pv 0) (pe_op op_addX (pv 1) pe_int) (fun _ _ => rfl)) pa_nil)) (pe_callB (kx_len (K := K) rfl) (by rfl) T.z_len (by decide +kernel) (pa_cons (pv 3) pa_nil)))) (pss_cons (ps_set (i := 8) sc__law_changed.nd rfl (by first | exact Or.inl rfl | exact Or.inr rfl) (pe_op op_modX (pe_callTy call_int1 (by rfl) T.z_int (by decide +kernel) (pa_cons (pe_ix (kx_ix (K := K) rfl) (pv 0) (pe_op op_addX (pv 1) pe_int) (fun _ _ => rfl)) pa_nil)) (pv 2))) (pss_cons (ps_set (i := 9) sc__law_changed.nd rfl (by first | exact Or.inl rfl | exact Or.inr rfl) (pe_op op_modX (pe_callTy call_int1 (by rfl) T.z_int (by decide +kernel) (pa_cons (pe_ix (kx_ix (K := K) rfl) (pv 0) (pe_op op_addX (pv 1) pe_int) (fun _ _ => rfl)) pa_nil)) (pv 2))) (pss_cons (ps_set (i := 10) sc__law_changed.nd rfl (by first | exact Or.inl rfl | exact Or.inr rfl) (pe_ix (kx_ix (K := K) rfl) (pe_lst (pa_cons (pe_tup (pa_cons pe_int (pa_cons pe_int pa_nil))) (pa_cons (pe_tup (pa_cons pe_int (pa_cons pe_int pa_nil))) (pa_cons (pe_tup (pa_cons (pe_un un_neg pe_int) (pa_cons pe_int pa_nil))) (pa_cons (pe_tup (pa_cons pe_int (pa_cons pe_int pa_nil))) pa_nil))))) (pe_op op_modX (pe_callTy call_int1 (by rfl) T.z_int (by decide +kernel) (pa_cons (pe_ix (kx_ix (K := K) rfl) (pv 0) (pe_op op_addX (pv 1) pe_int) (fun _ _ => rfl)) pa_nil)) pe_int) (fun _ _ => rfl))) (pss_cons (ps_if (pt_cmpR (kx_eq (K := K) rfl hr.units) (pv 6) pe_int (nomark _)) (pss_one (ps_expr (pe_bm PySem.F.plainAttrs_list PySem.F.slot_list_append PySem.F.type_list_append mt_append (pv 4) (pa_cons (pv 7) pa_nil)))) (pss_one (ps_if (pt_cmpR (kx_eq (K := K) rfl hr.units) (pv 6) pe_int (nomark _)) (pss_one (ps_set (i := 4) sc__law_changed.nd rfl (by first | exact Or.inl rfl | exact Or.inr rfl) (pe_slice (kx_sl (K := K) rfl) (pv 4) (po_some pe_int) po_none))) (pss_one (ps_if (pt_cmpR (kx_eq (K := K) rfl hr.units) (pv 6) pe_int (nomark _)) (pss_one (ps_expr (pe_bm PySem.F.plainAttrs_list PySem.F.slot_list_append PySem.F.type_list_append mt_append (pv 4) (pa_cons (pe_ix (kx_ix (K := K) rfl) (pe_lst (pa_cons (pe_un un_neg pe_int) (pa_cons (pe_callB (kx_len (K := K) rfl) (by rfl) T.z_len (by decide +kernel) (pa_cons (pv 3) pa_nil)) pa_nil))) (pe_op op_modX (pe_callTy call_int1 (by rfl) T.z_int (by decide +kernel) (pa_cons (pe_ix (kx_ix (K := K) rfl) (pv 0) (pe_op op_addX (pv 1) pe_int) (fun _ _ => rfl)) pa_nil)) pe_int) (fun _ _ => rfl)) pa_nil)))) (pss_one (ps_if (pt_cmpR (kx_eq (K := K) rfl hr.units) (pv 6) pe_int (nomark _)) (pss_one (ps_asg (pe_call G__law_plus (hr.mono (by decide)) (by rfl) T.g__law_plus T.F__law_plus.kp T.b__law_plus .nil pass0 (pa_cons (pe_ix (kx_ix (K := K) rfl) (pv 5) (pv 8) (fun _ _ => rfl)) (pa_cons (pv 10) pa_nil))) (pg_sub (pv 5) (pv 8) set_list))) (pss_one (ps_if (pt_cmpR (kx_eq (K := K) rfl hr.units) (pv 6) pe_int (nomark _)) (pss_cons (ps_asg (pe_call G__law_plus (hr.mono (by decide)) (by rfl) T.g__law_plus T.F__law_plus.kp T.b__law_plus .nil pass0 (pa_cons (pe_ix (kx_ix (K := K) rfl) (pv 5) (pv 8) (fun _ _ => rfl)) (pa_cons (pv 10) pa_nil))) (pg_sub (pv 5) (pv 8) set_list)) (pss_one (ps_asg (pe_call G__law_plus (hr.mono (by decide)) (by rfl) T.g__law_plus T.F__law_plus.kp T.b__law_plus .nil pass0 (pa_cons (pe_ix (kx_ix (K := K) rfl) (pv 5) (pv 9) (fun _ _ => rfl)) (pa_cons (pe_tup (pa_cons (pe_un un_neg (pe_ix (kx_ix (K := K) rfl) (pv 10) pe_int (fun _ _ => rfl))) (pa_cons (pe_ix (kx_ix (K := K) rfl) (pv 10) pe_int (fun _ _ => rfl)) pa_nil))) pa_nil))) (pg_sub (pv 5) (pv 9) set_list)))) (pss_one (ps_if (pt_cmpR (kx_eq (K := K) rfl hr.units) (pv 6) pe_int (nomark _)) (pss_one (ps_set (i := 5) sc__law_changed.nd rfl (by first | exact Or.inl rfl | exact Or.inr rfl) (pe_ix (kx_ix (K := K) rfl) (pe_lst (pa_cons (pe_op op_addX (pv 5) (pe_lst (pa_cons (pe_tup (pa_cons pe_int (pa_cons pe_int pa_nil))) pa_nil))) (pa_cons (pe_slice (kx_sl (K := K) rfl) (pv 5) (po_some pe_int) po_none) pa_nil))) (pe_op op_modX (pe_callTy call_int1 (by rfl) T.z_int (by decide +kernel) (pa_cons (pe_ix (kx_ix (K := K) rfl) (pv 0) (pe_op op_addX (pv 1) pe_int) (fun _ _ => rfl)) pa_nil)) pe_int) (fun _ _ => rfl)))) (pss_one (ps_if (PW.pt (pw_and (pt_cmpR (kx_eq (K := K) rfl hr.units) (pv 6) pe_int (nomark _)) (pw_and1 (pt_not (pt_cmpR (kx_in (K := K) rfl hr.units65) (pv 7) (pv 4) (by rfl)))))) (pss_cons (ps_expr (pe_bm PySem.F.plainAttrs_list PySem.F.slot_list_append PySem.F.type_list_append mt_append (pv 4) (pa_cons (pv 7) pa_nil))) (pss_one (ps_asg (pe_call G__law_plus (hr.mono (by decide)) (by rfl) T.g__law_plus T.F__law_plus.kp T.b__law_plus .nil pass0 (pa_cons (pe_ix (kx_ix (K := K) rfl) (pv 5) (pv 8) (fun _ _ => rfl)) (pa_cons (pe_tup (pa_cons (pe_ix (kx_ix (K := K) rfl) (pe_ix (kx_ix (K := K) rfl) (pv 3) (pv 7) (fun _ _ => rfl)) pe_int (fun _ _ => rfl)) (pa_cons pe_int pa_nil))) pa_nil))) (pg_sub (pv 5) (pv 8) set_list)))) (pss_one (ps_set (i := 4) sc__law_changed.nd rfl (by first | exact Or.inl rfl | exact Or.inr rfl) (pe_revL (pv 4))))))))))))))))) (pss_one (ps_ret (pe_tup (pa_cons (pv 4) (pa_cons (pv 5) pa_nil))))))))))))), fun Bp F0 => ⟨[.fr, .fr, .fr, .fr, .fr, .fr, .fr, .fr, .fr, .fr, .fr], ?_⟩⟩
  unfold b__law_changed
  exact (ss_seq (ss_set (i := 4) (m := (.own .fr)) (sx_of (se_cb cs_list (sa_cons (se_var (i := 4) (m := .fr) rfl) sa_nil))) (by decide) nio) (ss_seq (ss_set (i := 5) (m := (.own .fr)) (sx_of (se_cb cs_list (sa_cons (se_var (i := 5) (m := .fr) rfl) sa_nil))) (by decide) nio) (ss_seq (ss_set (i := 6) (m := .fr) (sx_of (se_op os_mod (se_cb cs_int (sa_cons (se_op os_ix (se_var (i := 0) (m := .fr) rfl) (se_var (i := 1) (m := .fr) rfl)) sa_nil)) se_int)) (by decide) nio) (ss_seq (ss_set (i := 7) (m := .fr) (sx_of (se_op os_mod (se_cb cs_int (sa_cons (se_op os_ix (se_var (i := 0) (m := .fr) rfl) (se_fr (se_op os_add (se_var (i := 1) (m := .fr) rfl) se_int) rfl)) sa_nil)) (se_cb cs_len (sa_cons (se_var (i := 3) (m := .fr) rfl) sa_nil)))) (by decide) nio) (ss_seq (ss_set (i := 8) (m := .fr) (sx_of (se_op os_mod (se_cb cs_int (sa_cons (se_op os_ix (se_var (i := 0) (m := .fr) rfl) (se_fr (se_op os_add (se_var (i := 1) (m := .fr) rfl) se_int) rfl)) sa_nil)) (se_var (i := 2) (m := .fr) rfl))) (by decide) nio) (ss_seq (ss_set (i := 9) (m := .fr) (sx_of (se_op os_mod (se_cb cs_int (sa_cons (se_op os_ix (se_var (i := 0) (m := .fr) rfl) (se_fr (se_op os_add (se_var (i := 1) (m := .fr) rfl) se_int) rfl)) sa_nil)) (se_var (i := 2) (m := .fr) rfl))) (by decide) nio) (ss_seq (ss_set (i := 10) (m := .fr) (sx_of (se_op os_ix (se_fr (se_lst (m := .fr) (sa_cons (se_tup (sa_cons se_int (sa_cons se_int sa_nil)) (by decide)) (sa_cons (se_tup (sa_cons se_int (sa_cons se_int sa_nil)) (by decide)) (sa_cons (se_tup (sa_cons (se_neg se_int) (sa_cons se_int sa_nil)) (by decide)) (sa_cons (se_tup (sa_cons se_int (sa_cons se_int sa_nil)) (by decide)) sa_nil)))) (by decide)) rfl) (se_op os_mod (se_cb cs_int (sa_cons (se_op os_ix (se_var (i := 0) (m := .fr) rfl) (se_fr (se_op os_add (se_var (i := 1) (m := .fr) rfl) se_int) rfl)) sa_nil)) se_int))) (by decide) nio) (ss_seq (ss_if (st_tt (se_op os_eq (se_var (i := 6) (m := .fr) rfl) se_int)) (ss_frz (i := 5) (m := (.own .fr)) (ss_expr (sx_app (i := 4) (m := .fr) rfl (sx_of (se_var (i := 7) (m := .fr) rfl)) rfl)) rfl nio) (ss_if (st_tt (se_op os_eq (se_var (i := 6) (m := .fr) rfl) se_int)) (ss_frz (i := 5) (m := (.own .fr)) (ss_set (i := 4) (m := (.own .fr)) (sx_of (se_sl (se_var (i := 4) (m := (.own .fr)) rfl) (so_some se_int) so_none)) (by decide) nio) rfl nio) (ss_if (st_tt (se_op os_eq (se_var (i := 6) (m := .fr) rfl) se_int)) (ss_frz (i := 5) (m := (.own .fr)) (ss_expr (sx_app (i := 4) (m := .fr) rfl (sx_of (se_op os_ix (se_fr (se_lst (m := .fr) (sa_cons (se_neg se_int) (sa_cons (se_cb cs_len (sa_cons (se_var (i := 3) (m := .fr) rfl) sa_nil)) sa_nil)) (by decide)) rfl) (se_op os_mod (se_cb cs_int (sa_cons (se_op os_ix (se_var (i := 0) (m := .fr) rfl) (se_fr (se_op os_add (se_var (i := 1) (m := .fr) rfl) se_int) rfl)) sa_nil)) se_int))) rfl)) rfl nio) (ss_if (st_tt (se_op os_eq (se_var (i := 6) (m := .fr) rfl) se_int)) (ss_frz (i := 5) (m := (.own .fr)) (ss_seti (i := 5) (m := .fr) rfl (sx_of (se_call (sa_cons (se_op os_ix (se_var (i := 5) (m := (.own .fr)) rfl) (se_var (i := 8) (m := .fr) rfl)) (sa_cons (se_var (i := 10) (m := .fr) rfl) sa_nil)) hx0)) (se_var (i := 8) (m := .fr) rfl) rfl) rfl nio) (ss_if (st_tt (se_op os_eq (se_var (i := 6) (m := .fr) rfl) se_int)) (ss_frz (i := 5) (m := (.own .fr)) (ss_seq (ss_seti (i := 5) (m := .fr) rfl (sx_of (se_call (sa_cons (se_op os_ix (se_var (i := 5) (m := (.own .fr)) rfl) (se_var (i := 8) (m := .fr) rfl)) (sa_cons (se_var (i := 10) (m := .fr) rfl) sa_nil)) hx0)) (se_var (i := 8) (m := .fr) rfl) rfl) (ss_seti (i := 5) (m := .fr) rfl (sx_of (se_call (sa_cons (se_op os_ix (se_var (i := 5) (m := (.own .fr)) rfl) (se_var (i := 9) (m := .fr) rfl)) (sa_cons (se_tup (sa_cons (se_neg (se_op os_ix (se_var (i := 10) (m := .fr) rfl) se_int)) (sa_cons (se_op os_ix (se_var (i := 10) (m := .fr) rfl) se_int) sa_nil)) (by decide)) sa_nil)) hx0)) (se_var (i := 9) (m := .fr) rfl) rfl)) rfl nio) (ss_if (st_tt (se_op os_eq (se_var (i := 6) (m := .fr) rfl) se_int)) (ss_set (i := 5) (m := .fr) (sx_of (se_op os_ix (se_fr (se_lst (m := .fr) (sa_cons (se_fr (se_op os_add (se_var (i := 5) (m := (.own .fr)) rfl) (se_fr (se_lst (m := .fr) (sa_cons (se_tup (sa_cons se_int (sa_cons se_int sa_nil)) (by decide)) sa_nil) (by decide)) rfl)) rfl) (sa_cons (se_fr (se_sl (se_var (i := 5) (m := (.own .fr)) rfl) (so_some se_int) so_none) rfl) sa_nil)) (by decide)) rfl) (se_op os_mod (se_cb cs_int (sa_cons (se_op os_ix (se_var (i := 0) (m := .fr) rfl) (se_fr (se_op os_add (se_var (i := 1) (m := .fr) rfl) se_int) rfl)) sa_nil)) se_int))) (by decide) nio) (ss_frz (i := 5) (m := (.own .fr)) (ss_if (st_and (st_tt (se_op os_eq (se_var (i := 6) (m := .fr) rfl) se_int)) (st_not (st_tt (se_op os_in (se_var (i := 7) (m := .fr) rfl) (se_var (i := 4) (m := (.own .fr)) rfl))))) (ss_seq (ss_expr (sx_app (i := 4) (m := .fr) rfl (sx_of (se_var (i := 7) (m := .fr) rfl)) rfl)) (ss_seti (i := 5) (m := .fr) rfl (sx_of (se_call (sa_cons (se_op os_ix (se_var (i := 5) (m := (.own .fr)) rfl) (se_var (i := 8) (m := .fr) rfl)) (sa_cons (se_tup (sa_cons (se_op os_ix (se_op os_ix (se_var (i := 3) (m := .fr) rfl) (se_var (i := 7) (m := .fr) rfl)) se_int) (sa_cons se_int sa_nil)) (by decide)) sa_nil)) hx0)) (se_var (i := 8) (m := .fr) rfl) rfl)) (ss_set (i := 4) (m := (.own .fr)) (sx_of (se_rev (se_var (i := 4) (m := (.own .fr)) rfl))) (by decide) nio)) rfl nio))))))) (ss_ret (Γ' := [.fr, .fr, .fr, .fr, .fr, .fr, .fr, .fr, .fr, .fr, .fr]) (sx_tup (sxa_cons (sx_fr (sx_move (i := 4) (m := (.own .fr)) rfl) rfl) (sxa_cons (sx_of (se_var (i := 5) (m := .fr) rfl)) sxa_nil)) (by decide)))))))))))
theorem ok_law (T : Tp P K mg) : FnTop P w K mg base CX0 T.a_law T.fd_law ["_law_script"] (spD K mg X0 [.sc] .fr m_law) := by
  have G__law_numbers := ok__law_numbers (P := P) (w := w) (base := base) T
  have G__law_sets := ok__law_sets (P := P) (w := w) (base := base) T
  have G__law_part := ok__law_part (P := P) (w := w) (base := base) T
  have G_cover_factor := ok_cover_factor (P := P) (w := w) (base := base) T
  have G_quick_cover := ok_quick_cover (P := P) (w := w) (base := base) T
  have G__law_least := ok__law_least (P := P) (w := w) (base := base) T
  have G__law_changed := ok__law_changed (P := P) (w := w) (base := base) T
  have G__law_due := ok__law_due (P := P) (w := w) (base := base) T
  have G_check_shares := ok_check_shares (P := P) (w := w) (base := base) T
  have G__law_times := ok__law_times (P := P) (w := w) (base := base) T
  have G__law_less := ok__law_less (P := P) (w := w) (base := base) T
  have G__law_added := ok__law_added (P := P) (w := w) (base := base) T
  have G__law_lowest := ok__law_lowest (P := P) (w := w) (base := base) T
  have G_cover_bound := ok_cover_bound (P := P) (w := w) (base := base) T
  refine fnTop (k := 6) (N := N_law) (pm := [.sc]) (Γl := [.fr, .fr, .fr, .fr, .fr, .fr, .fr, .fr, .fr, .fr, .fr, .fr, .fr, .fr, .fr, .fr, .fr, .fr, .fr, .fr]) T.F_law sc_law ⟨rfl, by decide, by decide⟩ rfl rfl fun cdv A outer s H E hg hr => ⟨_, (pss_cons (ps_set (i := 1) sc_law.nd rfl (by first | exact Or.inl rfl | exact Or.inr rfl) (pe_call G__law_numbers (hr.mono (by decide)) (by rfl) T.g__law_numbers T.F__law_numbers.kp T.b__law_numbers .nil pass0 (pa_cons (pv 0) (pa_cons pe_int pa_nil)))) (pss_cons (ps_asg (pe_call G__law_sets (hr.mono (by decide)) (by rfl) T.g__law_sets T.F__law_sets.kp T.b__law_sets .nil pass0 (pa_cons (pv 1) (pa_cons pe_int (pa_cons pe_int (pa_cons pe_int pa_nil))))) (pg_tup rfl (pgs_cons (pg_name (i := 2) sc_law.nd rfl (by first | exact Or.inl rfl | exact Or.inr rfl)) (pgs_cons (pg_name (i := 3) sc_law.nd rfl (by first | exact Or.inl rfl | exact Or.inr rfl)) pgs_nil)))) (pss_cons (ps_set (i := 4) sc_law.nd rfl (by first | exact Or.inl rfl | exact Or.inr rfl) (pe_call G__law_part (hr.mono (by decide)) (by rfl) T.g__law_part T.F__law_part.kp T.b__law_part .nil pass0 (pa_cons (pe_callB (kx_max (K := K) rfl rfl) (by rfl) T.z_max (by decide +kernel) (pa_cons (pe_lc (own := [("_law_members", 5), ("_law_price", 6)]) (g := (L2.gTup _ 2 (L2.gCons (L2.gName 5) (L2.gCons (L2.gName 6) L2.gNil)))) rfl sc_law.nd (kx_seq (K := K) rfl (pv 3)) (blkOk_by (own := [("_law_members", 5), ("_law_price", 6)]) (N := N_law) (sc := defScope s_law) (by decide +kernel)) (fun _ _ _ _ _ => (pg_tup rfl (pgs_cons (pg_name (i := 5) sc_law.nd rfl (by first | exact Or.inl rfl | exact Or.inr rfl)) (pgs_cons (pg_name (i := 6) sc_law.nd rfl (by first | exact Or.inl rfl | exact Or.inr rfl)) pgs_nil)))) (fun _ _ _ _ _ => pts_nil) (fun _ _ _ _ _ => (pe_callB (kx_len (K := K) rfl) (by rfl) T.z_len (by decide +kernel) (pa_cons (pv 5) pa_nil)))) pa_nil)) pa_nil))) (pss_cons (ps_if (pt_cmpR (kx_ne (K := K) rfl hr.units) (pe_call G_cover_factor (hr.mono (by decide)) (by rfl) T.g_cover_factor T.F_cover_factor.kp T.b_cover_factor .nil pass0 (pa_cons (pv 2) (pa_cons (pv 3) pa_nil))) (pv 4) (nomark _)) (pss_one (ps_ret pe_bl)) pss_nil) (pss_cons (ps_set (i := 7) sc_law.nd rfl (by first | exact Or.inl rfl | exact Or.inr rfl) (pe_call G_quick_cover (hr.mono (by decide)) (by rfl) T.g_quick_cover T.F_quick_cover.kp T.b_quick_cover .nil pass0 (pa_cons (pv 2) (pa_cons (pv 3) pa_nil)))) (pss_cons (ps_par (i := 8) (j := 9) (by rfl) sc_law.nd rfl rfl (by decide) rfl rfl (pa_cons (pe_lst pa_nil) (pa_cons (pe_op op_rep (pe_lst (pa_cons (pe_tup (pa_cons pe_int (pa_cons pe_int pa_nil))) pa_nil)) (pv 2)) pa_nil)) (by rfl)) (pss_cons (ps_if (pt_cmpR op_notN (pv 7) pe_non (nomark _)) (pss_one (ps_asg (pv 7) (pg_tup rfl (pgs_cons (pg_name (i := 8) sc_law.nd rfl (by first | exact Or.inl rfl | exact Or.inr rfl)) (pgs_cons (pg_name (i := 10) sc_law.nd rfl (by first | exact Or.inl rfl | exact Or.inr rfl)) (pgs_cons (pg_name (i := 9) sc_law.nd rfl (by first | exact Or.inl rfl | exact Or.inr rfl)) pgs_nil)))))) pss_nil) (pss_cons (ps_set (i := 11) sc_law.nd rfl (by first | exact Or.inl rfl | exact Or.inr rfl) (pe_call G__law_least (hr.mono (by decide)) (by rfl) T.g__law_least T.F__law_least.kp T.b__law_least .nil pass0 (pa_cons (pv 2) (pa_cons (pv 3) pa_nil)))) (pss_cons (ps_for PassesOwn.never rfl (pi_range1 rfl T.z_range (pa_cons pe_int pa_nil)) (pg_name (i := 12) sc_law.nd rfl (by first | exact Or.inl rfl | exact Or.inr rfl)) (pss_cons (ps_par (i := 13) (j := 14) (by rfl) sc_law.nd rfl rfl (by decide) rfl rfl (pa_cons (pe_callTy (kx_list (K := K) rfl) (by rfl) T.z_list (by decide +kernel) (pa_cons (pv 8) pa_nil)) (pa_cons (pe_callTy (kx_list (K := K) rfl) (by rfl) T.z_list (by decide +kernel) (pa_cons (pv 9) pa_nil)) pa_nil)) (by rfl)) (pss_cons (ps_for PassesOwn.never rfl (pi_range1 rfl T.z_range (pa_cons (pe_callB (call_min2 rfl) (by rfl) T.z_min (by decide +kernel) (pa_cons (pv 12) (pa_cons pe_int pa_nil))) pa_nil)) (pg_name (i := 15) sc_law.nd rfl (by first | exact Or.inl rfl | exact Or.inr rfl)) (pss_one (ps_asg (pe_call G__law_changed (hr.mono (by decide)) (by rfl) T.g__law_changed T.F__law_changed.kp T.b__law_changed .nil pass0 (pa_cons (pv 1) (pa_cons (pe_op op_addX (pe_op op_addX pe_int (pe_op op_mulX pe_int (pv 12))) (pe_op op_mulX pe_int (pv 15))) (pa_cons (pv 2) (pa_cons (pv 3) (pa_cons (pv 13) (pa_cons (pe_slice (kx_sl (K := K) rfl) (pe_op op_addX (pv 14) (pe_op op_rep (pe_lst (pa_cons (pe_tup (pa_cons pe_int (pa_cons pe_int pa_nil))) pa_nil)) (pv 2))) po_none (po_some (pv 2))) pa_nil))))))) (pg_tup rfl (pgs_cons (pg_name (i := 13) sc_law.nd rfl (by first | exact Or.inl rfl | exact Or.inr rfl)) (pgs_cons (pg_name (i := 14) sc_law.nd rfl (by first | exact Or.inl rfl | exact Or.inr rfl)) pgs_nil)))))) (pss_cons (ps_if (pt_cmpR (kx_eq (K := K) rfl hr.units) (pv 12) pe_int (nomark _)) (pss_one (ps_asg (pe_call G__law_changed (hr.mono (by decide)) (by rfl) T.g__law_changed T.F__law_changed.kp T.b__law_changed .nil pass0 (pa_cons (pv 1) (pa_cons pe_int (pa_cons (pv 2) (pa_cons (pv 3) (pa_cons (pv 13) (pa_cons (pv 9) pa_nil))))))) (pg_tup rfl (pgs_cons (pg_name (i := 13) sc_law.nd rfl (by first | exact Or.inl rfl | exact Or.inr rfl)) (pgs_cons (pg_name (i := 14) sc_law.nd rfl (by first | exact Or.inl rfl | exact Or.inr rfl)) pgs_nil))))) pss_nil) (pss_cons (ps_set (i := 16) sc_law.nd rfl (by first | exact Or.inl rfl | exact Or.inr rfl) (pe_callB (kx_repr (K := K) rfl hg hr.units65) (by rfl) T.z_repr (by decide +kernel) (pa_cons (pe_tup (pa_cons (pv 13) (pa_cons (pv 14) pa_nil))) pa_nil))) (pss_cons (ps_set (i := 17) sc_law.nd rfl (by first | exact Or.inl rfl | exact Or.inr rfl) (pe_call G__law_due (hr.mono (by decide)) (by rfl) T.g__law_due T.F__law_due.kp T.b__law_due .nil pass0 (pa_cons (pv 2) (pa_cons (pv 3) (pa_cons (pv 13) (pa_cons (pv 14) pa_nil)))))) (pss_cons (ps_if (PW.pt (pw_or (pt_cmpR (kx_ne (K := K) rfl hr.units) (pe_call G_check_shares (hr.mono (by decide)) (by rfl) T.g_check_shares T.F_check_shares.kp T.b_check_shares .nil pass0 (pa_cons (pv 2) (pa_cons (pv 3) (pa_cons (pv 13) (pa_cons (pv 14) pa_nil))))) (pv 17) (nomark _)) (pw_or1 (pt_cmpR (kx_ne (K := K) rfl hr.units) (pe_callB (kx_repr (K := K) rfl hg hr.units65) (by rfl) T.z_repr (by decide +kernel) (pa_cons (pe_tup (pa_cons (pv 13) (pa_cons (pv 14) pa_nil))) pa_nil)) (pv 16) (nomark _))))) (pss_one (ps_ret pe_bl)) pss_nil) (pss_cons (ps_if (kx_tru (K := K) rfl (pv 17) (by intro _; rfl)) (pss_cons (ps_set (i := 10) sc_law.nd rfl (by first | exact Or.inl rfl | exact Or.inr rfl) (pe_callB (kx_sum (K := K) rfl rfl) (by rfl) T.z_sum (by decide +kernel) (pa_cons (pe_lc (own := [("_law_k", 18)]) (g := (L2.gName 18)) rfl sc_law.nd (kx_seq (K := K) rfl (pv 13)) (blkOk_by (own := [("_law_k", 18)]) (N := N_law) (sc := defScope s_law) (by decide +kernel)) (fun _ _ _ _ _ => (pg_name (i := 18) sc_law.nd rfl (by first | exact Or.inl rfl | exact Or.inr rfl))) (fun _ _ _ _ _ => pts_nil) (fun _ _ _ _ _ => (pe_ix (kx_ix (K := K) rfl) (pe_ix (kx_ix (K := K) rfl) (pv 3) (pv 18) (fun _ _ => rfl)) pe_int (fun _ _ => rfl)))) pa_nil))) (pss_one (ps_if (PW.pt (pw_or (pt_cmpR op_isN (pv 11) pe_non (nomark _)) (pw_or1 (pt_val (pe_call G__law_less (hr.mono (by decide)) (by rfl) T.g__law_less T.F__law_less.kp T.b__law_less .nil pass0 (pa_cons (pe_call G__law_times (hr.mono (by decide)) (by rfl) T.g__law_times T.F__law_times.kp T.b__law_times .nil pass0 (pa_cons (pv 4) (pa_cons (pe_tup (pa_cons (pv 11) (pa_cons pe_int pa_nil))) pa_nil))) (pa_cons (pe_tup (pa_cons (pv 10) (pa_cons pe_int pa_nil))) pa_nil))))))) (pss_one (ps_ret pe_bl)) pss_nil))) pss_nil) (pss_one (ps_if (pt_cmpR (kx_eq (K := K) rfl hr.units) (pe_callB (kx_len (K := K) rfl) (by rfl) T.z_len (by decide +kernel) (pa_cons (pv 14) pa_nil)) (pv 2) (nomark _)) (pss_cons (ps_set (i := 19) sc_law.nd rfl (by first | exact Or.inl rfl | exact Or.inr rfl) (pe_call G__law_added (hr.mono (by decide)) (by rfl) T.g__law_added T.F__law_added.kp T.b__law_added .nil pass0 (pa_cons (pv 14) pa_nil))) (pss_cons (ps_set (i := 20) sc_law.nd rfl (by first | exact Or.inl rfl | exact Or.inr rfl) (pe_tup (pa_cons pe_int (pa_cons pe_int pa_nil)))) (pss_cons (ps_if (pt_cmpR (kx_ne (K := K) rfl hr.units) (pv 4) (pe_tup (pa_cons pe_int (pa_cons pe_int pa_nil))) (nomark _)) (pss_one (ps_set (i := 20) sc_law.nd rfl (by first | exact Or.inl rfl | exact Or.inr rfl) (pe_call G__law_lowest (hr.mono (by decide)) (by rfl) T.g__law_lowest T.F__law_lowest.kp T.b__law_lowest .nil pass0 (pa_cons (pe_op op_mulX (pe_ix (kx_ix (K := K) rfl) (pv 19) pe_int (fun _ _ => rfl)) (pe_ix (kx_ix (K := K) rfl) (pv 4) pe_int (fun _ _ => rfl))) (pa_cons (pe_op op_mulX (pe_ix (kx_ix (K := K) rfl) (pv 19) pe_int (fun _ _ => rfl)) (pe_ix (kx_ix (K := K) rfl) (pv 4) pe_int (fun _ _ => rfl))) pa_nil))))) pss_nil) (pss_one (ps_if (PW.pt (pw_or (pt_cmpR (kx_ne (K := K) rfl hr.units) (pe_call G_cover_bound (hr.mono (by decide)) (by rfl) T.g_cover_bound T.F_cover_bound.kp T.b_cover_bound .nil pass0 (pa_cons (pv 2) (pa_cons (pv 3) (pa_cons (pv 14) pa_nil)))) (pv 20) (nomark _)) (pw_or1 (PW.pt (pw_and (kx_tru (K := K) rfl (pv 17) (by intro _; rfl)) (pw_and1 (pt_val (pe_call G__law_less (hr.mono (by decide)) (by rfl) T.g__law_less T.F__law_less.kp T.b__law_less .nil pass0 (pa_cons (pe_tup (pa_cons (pv 11) (pa_cons pe_int pa_nil))) (pa_cons (pv 20) pa_nil)))))))))) (pss_one (ps_ret pe_bl)) pss_nil))))) pss_nil)))))))))) (pss_one (ps_ret (pe_or (pe_cmpR op_isN (pv 7) pe_non (nomark _)) (pe_one (pe_call G__law_due (hr.mono (by decide)) (by rfl) T.g__law_due T.F__law_due.kp T.b__law_due .nil pass0 (pa_cons (pv 2) (pa_cons (pv 3) (pa_cons (pv 8) (pa_cons (pv 9) pa_nil)))))))))))))))))), fun Bp F0 => ⟨[.sc, .fr, .fr, .fr, .fr, .fr, .fr, .fr, .fr, .fr, .fr, .fr, .fr, .fr, .fr, .fr, .fr, .fr, .fr, .fr, .fr], ?_⟩⟩
  unfold b_law
  exact (ss_seq (ss_set (i := 1) (m := .fr) (sx_of (se_fr (se_call (sa_cons (se_var (i := 0) (m := .sc) rfl) (sa_cons se_int sa_nil)) hx0) rfl)) (by decide) nio) (ss_seq (ss_asg (sx_of (se_call (sa_cons (se_var (i := 1) (m := .fr) rfl) (sa_cons se_int (sa_cons se_int (sa_cons se_int sa_nil)))) hx0)) (sn_tup (m := .fr) (is := [2, 3]) (Names.cons (Names.cons Names.nil)) (by decide) nioL) nx_tup) (ss_seq (ss_set (i := 4) (m := .fr) (sx_of (se_call (sa_cons (se_cb cs_max (sa_cons (se_fr (se_lc (vs := [5, 6]) (si_seqC (se_var (i := 3) (m := .fr) rfl)) (sn_tup (m := .fr) (is := [5, 6]) (Names.cons (Names.cons Names.nil)) (by decide) nioL) (keeps_tup (by decide)) nx_tup (by decide) st_yes (se_cb cs_len (sa_cons (se_var (i := 5) (m := .fr) rfl) sa_nil)) rfl rfl nioL) rfl) sa_nil)) sa_nil) hx0)) (by decide) nio) (ss_seq (ss_if (st_tt (se_op os_ne (se_call (sa_cons (se_var (i := 2) (m := .fr) rfl) (sa_cons (se_var (i := 3) (m := .fr) rfl) sa_nil)) hx0) (se_var (i := 4) (m := .fr) rfl))) (ss_ret (Γ' := [.sc, .fr, .fr, .fr, .fr, .fr, .fr, .fr, .fr, .fr, .fr, .fr, .fr, .fr, .fr, .fr, .fr, .fr, .fr, .fr, .fr]) (sx_of se_bl)) ss_nil) (ss_seq (ss_set (i := 7) (m := .fr) (sx_of (se_call (sa_cons (se_var (i := 2) (m := .fr) rfl) (sa_cons (se_var (i := 3) (m := .fr) rfl) sa_nil)) hx0)) (by decide) nio) (ss_seq (ss_par (i := 8) (j := 9) (sa_cons (se_fr (se_lst (m := .fr) sa_nil (by decide)) rfl) (sa_cons (se_fr (se_op os_rep (se_lst (m := .fr) (sa_cons (se_tup (sa_cons se_int (sa_cons se_int sa_nil)) (by decide)) sa_nil) (by decide)) (se_var (i := 2) (m := .fr) rfl)) rfl) sa_nil)) (by decide) (by decide) nio2) (ss_seq (ss_if (st_tt (se_op os_notN (se_var (i := 7) (m := .fr) rfl) se_non)) (ss_asg (sx_of (se_var (i := 7) (m := .fr) rfl)) (sn_tup (m := .fr) (is := [8, 10, 9]) (Names.cons (Names.cons (Names.cons Names.nil))) (by decide) nioL) nx_tup) ss_nil) (ss_seq (ss_set (i := 11) (m := .fr) (sx_of (se_call (sa_cons (se_var (i := 2) (m := .fr) rfl) (sa_cons (se_var (i := 3) (m := .fr) rfl) sa_nil)) hx0)) (by decide) nio) (ss_seq (ss_for (si_rng1 (sa_cons se_int sa_nil)) (sn_name (i := 12) (m := .fr) rfl nio) nx_name (ss_seq (ss_par (i := 13) (j := 14) (sa_cons (se_fr (se_cb cs_list (sa_cons (se_var (i := 8) (m := .fr) rfl) sa_nil)) rfl) (sa_cons (se_fr (se_cb cs_list (sa_cons (se_var (i := 9) (m := .fr) rfl) sa_nil)) rfl) sa_nil)) (by decide) (by decide) nio2) (ss_seq (ss_for (si_rng1 (sa_cons (se_cb cs_min2 (sa_cons (se_var (i := 12) (m := .fr) rfl) (sa_cons se_int sa_nil))) sa_nil)) (sn_name (i := 15) (m := .fr) rfl nio) nx_name (ss_asg (sx_of (se_call (sa_cons (se_var (i := 1) (m := .fr) rfl) (sa_cons (se_fr (se_op os_add (se_fr (se_op os_add se_int (se_op os_mul se_int (se_var (i := 12) (m := .fr) rfl))) rfl) (se_op os_mul se_int (se_var (i := 15) (m := .fr) rfl))) rfl) (sa_cons (se_var (i := 2) (m := .fr) rfl) (sa_cons (se_var (i := 3) (m := .fr) rfl) (sa_cons (se_var (i := 13) (m := .fr) rfl) (sa_cons (se_fr (se_sl (se_fr (se_op os_add (se_var (i := 14) (m := .fr) rfl) (se_fr (se_op os_rep (se_lst (m := .fr) (sa_cons (se_tup (sa_cons se_int (sa_cons se_int sa_nil)) (by decide)) sa_nil) (by decide)) (se_var (i := 2) (m := .fr) rfl)) rfl)) rfl) so_none (so_some (se_var (i := 2) (m := .fr) rfl))) rfl) sa_nil)))))) hx0)) (sn_tup (m := .fr) (is := [13, 14]) (Names.cons (Names.cons Names.nil)) (by decide) nioL) nx_tup)) (ss_seq (ss_if (st_tt (se_op os_eq (se_var (i := 12) (m := .fr) rfl) se_int)) (ss_asg (sx_of (se_call (sa_cons (se_var (i := 1) (m := .fr) rfl) (sa_cons se_int (sa_cons (se_var (i := 2) (m := .fr) rfl) (sa_cons (se_var (i := 3) (m := .fr) rfl) (sa_cons (se_var (i := 13) (m := .fr) rfl) (sa_cons (se_var (i := 9) (m := .fr) rfl) sa_nil)))))) hx0)) (sn_tup (m := .fr) (is := [13, 14]) (Names.cons (Names.cons Names.nil)) (by decide) nioL) nx_tup) ss_nil) (ss_seq (ss_set (i := 16) (m := .fr) (sx_of (se_cb cs_repr (sa_cons (se_tup (sa_cons (se_var (i := 13) (m := .fr) rfl) (sa_cons (se_var (i := 14) (m := .fr) rfl) sa_nil)) (by decide)) sa_nil))) (by decide) nio) (ss_seq (ss_set (i := 17) (m := .fr) (sx_of (se_call (sa_cons (se_var (i := 2) (m := .fr) rfl) (sa_cons (se_var (i := 3) (m := .fr) rfl) (sa_cons (se_var (i := 13) (m := .fr) rfl) (sa_cons (se_var (i := 14) (m := .fr) rfl) sa_nil)))) hx0)) (by decide) nio) (ss_seq (ss_if (st_or (st_tt (se_op os_ne (se_call (sa_cons (se_var (i := 2) (m := .fr) rfl) (sa_cons (se_var (i := 3) (m := .fr) rfl) (sa_cons (se_var (i := 13) (m := .fr) rfl) (sa_cons (se_var (i := 14) (m := .fr) rfl) sa_nil)))) hx0) (se_var (i := 17) (m := .fr) rfl))) (st_tt (se_op os_ne (se_cb cs_repr (sa_cons (se_tup (sa_cons (se_var (i := 13) (m := .fr) rfl) (sa_cons (se_var (i := 14) (m := .fr) rfl) sa_nil)) (by decide)) sa_nil)) (se_var (i := 16) (m := .fr) rfl)))) (ss_ret (Γ' := [.sc, .fr, .fr, .fr, .fr, .fr, .fr, .fr, .fr, .fr, .fr, .fr, .fr, .fr, .fr, .fr, .fr, .fr, .fr, .fr, .fr]) (sx_of se_bl)) ss_nil) (ss_seq (ss_if (st_tru (se_var (i := 17) (m := .fr) rfl)) (ss_seq (ss_set (i := 10) (m := .fr) (sx_of (se_cb cs_sum (sa_cons (se_fr (se_lc (vs := [18]) (si_seqC (se_var (i := 13) (m := .fr) rfl)) (sn_name (i := 18) (m := .fr) rfl nio) (keeps_name (by decide)) nx_name (by decide) st_yes (se_op os_ix (se_op os_ix (se_var (i := 3) (m := .fr) rfl) (se_var (i := 18) (m := .fr) rfl)) se_int) rfl rfl nioL) rfl) sa_nil))) (by decide) nio) (ss_if (st_or (st_tt (se_op os_isN (se_var (i := 11) (m := .fr) rfl) se_non)) (st_b (se_call (sa_cons (se_call (sa_cons (se_var (i := 4) (m := .fr) rfl) (sa_cons (se_tup (sa_cons (se_var (i := 11) (m := .fr) rfl) (sa_cons se_int sa_nil)) (by decide)) sa_nil)) hx0) (sa_cons (se_tup (sa_cons (se_var (i := 10) (m := .fr) rfl) (sa_cons se_int sa_nil)) (by decide)) sa_nil)) hx0))) (ss_ret (Γ' := [.sc, .fr, .fr, .fr, .fr, .fr, .fr, .fr, .fr, .fr, .fr, .fr, .fr, .fr, .fr, .fr, .fr, .fr, .fr, .fr, .fr]) (sx_of se_bl)) ss_nil)) ss_nil) (ss_if (st_tt (se_op os_eq (se_cb cs_len (sa_cons (se_var (i := 14) (m := .fr) rfl) sa_nil)) (se_var (i := 2) (m := .fr) rfl))) (ss_seq (ss_set (i := 19) (m := .fr) (sx_of (se_call (sa_cons (se_var (i := 14) (m := .fr) rfl) sa_nil) hx0)) (by decide) nio) (ss_seq (ss_set (i := 20) (m := .fr) (sx_of (se_tup (sa_cons se_int (sa_cons se_int sa_nil)) (by decide))) (by decide) nio) (ss_seq (ss_if (st_tt (se_op os_ne (se_var (i := 4) (m := .fr) rfl) (se_tup (sa_cons se_int (sa_cons se_int sa_nil)) (by decide)))) (ss_set (i := 20) (m := .fr) (sx_of (se_call (sa_cons (se_op os_mul (se_op os_ix (se_var (i := 19) (m := .fr) rfl) se_int) (se_op os_ix (se_var (i := 4) (m := .fr) rfl) se_int)) (sa_cons (se_op os_mul (se_op os_ix (se_var (i := 19) (m := .fr) rfl) se_int) (se_op os_ix (se_var (i := 4) (m := .fr) rfl) se_int)) sa_nil)) hx0)) (by decide) nio) ss_nil) (ss_if (st_or (st_tt (se_op os_ne (se_call (sa_cons (se_var (i := 2) (m := .fr) rfl) (sa_cons (se_var (i := 3) (m := .fr) rfl) (sa_cons (se_var (i := 14) (m := .fr) rfl) sa_nil))) hx0) (se_var (i := 20) (m := .fr) rfl))) (st_and (st_tru (se_var (i := 17) (m := .fr) rfl)) (st_b (se_call (sa_cons (se_tup (sa_cons (se_var (i := 11) (m := .fr) rfl) (sa_cons se_int sa_nil)) (by decide)) (sa_cons (se_var (i := 20) (m := .fr) rfl) sa_nil)) hx0)))) (ss_ret (Γ' := [.sc, .fr, .fr, .fr, .fr, .fr, .fr, .fr, .fr, .fr, .fr, .fr, .fr, .fr, .fr, .fr, .fr, .fr, .fr, .fr, .fr]) (sx_of se_bl)) ss_nil)))) ss_nil))))))))) (ss_ret (Γ' := [.sc, .fr, .fr, .fr, .fr, .fr, .fr, .fr, .fr, .fr, .fr, .fr, .fr, .fr, .fr, .fr, .fr, .fr, .fr, .fr, .fr]) (sx_of (se_orV (se_op os_isN (se_var (i := 7) (m := .fr) rfl) se_non) (se_call (sa_cons (se_var (i := 2) (m := .fr) rfl) (sa_cons (se_var (i := 3) (m := .fr) rfl) (sa_cons (se_var (i := 8) (m := .fr) rfl) (sa_cons (se_var (i := 9) (m := .fr) rfl) sa_nil)))) hx0)))))))))))))
end
end M
end

/-! text Hd -/
section
set_option maxRecDepth 100000
set_option maxHeartbeats 8000000
namespace M
open PySem PySem.Spec PyProof.Rows L2 DL
/-! the head -/
def fnX : List He.DefD := [⟨("fraction", none), "fraction", "fraction", defArgs s_fraction, defBody s_fraction, defScope s_fraction, [], []⟩,
  ⟨("plus", none), "plus", "plus", defArgs s_plus, defBody s_plus, defScope s_plus, [], []⟩,
  ⟨("times", none), "times", "times", defArgs s_times, defBody s_times, defScope s_times, [], []⟩,
  ⟨("over", none), "over", "over", defArgs s_over, defBody s_over, defScope s_over, [], []⟩,
  ⟨("is_less", none), "is_less", "is_less", defArgs s_is_less, defBody s_is_less, defScope s_is_less, [], []⟩,
  ⟨("added", none), "added", "added", defArgs s_added, defBody s_added, defScope s_added, [], []⟩,
  ⟨("check_sets", none), "check_sets", "check_sets", defArgs s_check_sets, defBody s_check_sets, defScope s_check_sets, [], []⟩,
  ⟨("next_set", none), "next_set", "next_set", defArgs s_next_set, defBody s_next_set, defScope s_next_set, [], []⟩,
  ⟨("quick_cover", none), "quick_cover", "quick_cover", defArgs s_quick_cover, defBody s_quick_cover, defScope s_quick_cover, [], []⟩,
  ⟨("harmonic", none), "harmonic", "harmonic", defArgs s_harmonic, defBody s_harmonic, defScope s_harmonic, [], []⟩,
  ⟨("cover_factor", none), "cover_factor", "cover_factor", defArgs s_cover_factor, defBody s_cover_factor, defScope s_cover_factor, [], []⟩,
  ⟨("check_shares", none), "check_shares", "check_shares", defArgs s_check_shares, defBody s_check_shares, defScope s_check_shares, [], []⟩,
  ⟨("cover_bound", none), "cover_bound", "cover_bound", defArgs s_cover_bound, defBody s_cover_bound, defScope s_cover_bound, [], []⟩,
  ⟨("_law_numbers", none), "_law_numbers", "_law_numbers", defArgs s__law_numbers, defBody s__law_numbers, defScope s__law_numbers, [], []⟩,
  ⟨("_law_lowest", none), "_law_lowest", "_law_lowest", defArgs s__law_lowest, defBody s__law_lowest, defScope s__law_lowest, [], []⟩,
  ⟨("_law_plus", none), "_law_plus", "_law_plus", defArgs s__law_plus, defBody s__law_plus, defScope s__law_plus, [], []⟩,
  ⟨("_law_times", none), "_law_times", "_law_times", defArgs s__law_times, defBody s__law_times, defScope s__law_times, [], []⟩,
  ⟨("_law_less", none), "_law_less", "_law_less", defArgs s__law_less, defBody s__law_less, defScope s__law_less, [], []⟩,
  ⟨("_law_added", none), "_law_added", "_law_added", defArgs s__law_added, defBody s__law_added, defScope s__law_added, [], []⟩,
  ⟨("_law_sets", none), "_law_sets", "_law_sets", defArgs s__law_sets, defBody s__law_sets, defScope s__law_sets, [], []⟩,
  ⟨("_law_part", none), "_law_part", "_law_part", defArgs s__law_part, defBody s__law_part, defScope s__law_part, [], []⟩,
  ⟨("_law_due", none), "_law_due", "_law_due", defArgs s__law_due, defBody s__law_due, defScope s__law_due, [], []⟩,
  ⟨("_law_least", none), "_law_least", "_law_least", defArgs s__law_least, defBody s__law_least, defScope s__law_least, [], []⟩,
  ⟨("_law_changed", none), "_law_changed", "_law_changed", defArgs s__law_changed, defBody s__law_changed, defScope s__law_changed, [], []⟩,
  ⟨("law", none), "law", "law", defArgs s_law, defBody s_law, defScope s_law, [], []⟩]
def qsX : Qs := [(fun K => (He.Fa.glo "fraction").ok K),
  (fun K => (He.Fa.glo "plus").ok K),
  (fun K => (He.Fa.glo "times").ok K),
  (fun K => (He.Fa.glo "over").ok K),
  (fun K => (He.Fa.glo "is_less").ok K),
  (fun K => (He.Fa.glo "added").ok K),
  (fun K => (He.Fa.glo "check_sets").ok K),
  (fun K => (He.Fa.glo "next_set").ok K),
  (fun K => (He.Fa.glo "quick_cover").ok K),
  (fun K => (He.Fa.glo "harmonic").ok K),
  (fun K => (He.Fa.glo "cover_factor").ok K),
  (fun K => (He.Fa.glo "check_shares").ok K),
  (fun K => (He.Fa.glo "cover_bound").ok K),
  (fun K => (He.Fa.glo "_law_numbers").ok K),
  (fun K => (He.Fa.glo "_law_lowest").ok K),
  (fun K => (He.Fa.glo "_law_plus").ok K),
  (fun K => (He.Fa.glo "_law_times").ok K),
  (fun K => (He.Fa.glo "_law_less").ok K),
  (fun K => (He.Fa.glo "_law_added").ok K),
  (fun K => (He.Fa.glo "_law_sets").ok K),
  (fun K => (He.Fa.glo "_law_part").ok K),
  (fun K => (He.Fa.glo "_law_due").ok K),
  (fun K => (He.Fa.glo "_law_least").ok K),
  (fun K => (He.Fa.glo "_law_changed").ok K),
  (fun K => (He.Fa.glo "law").ok K),
  (fun K => (He.Fa.int "MOST_ELEMENTS" 40).ok K),
  (fun K => (He.Fa.int "MOST_PRICE" 1048576).ok K),
  (fun K => (He.Fa.int "MOST_SETS" 40).ok K),
  (fun K => (He.Fa.glo "ZERO").ok K),
  (fun K => He.tupB K "ZERO" [(.int 0), (.int 1)]),
  (fun K => (He.Fa.free "abs").ok K),
  (fun K => (He.Fa.free "all").ok K),
  (fun K => (He.Fa.free "any").ok K),
  bltB "gcd" "math.gcd",
  (fun K => (He.Fa.free "int").ok K),
  (fun K => (He.Fa.free "len").ok K),
  (fun K => (He.Fa.free "list").ok K),
  (fun K => (He.Fa.free "max").ok K),
  (fun K => (He.Fa.free "min").ok K),
  (fun K => (He.Fa.free "range").ok K),
  (fun K => (He.Fa.free "repr").ok K),
  (fun K => (He.Fa.free "set").ok K),
  (fun K => (He.Fa.free "sorted").ok K),
  (fun K => (He.Fa.free "sum").ok K)]
end M
end

/-! text End -/
section
set_option maxRecDepth 100000
set_option maxHeartbeats 8000000
namespace M
open PySem PySem.Spec PyProof.Rows L2 DL
theorem facts {w : World} {K : PySem.W.Frag} {h : Heap} {mg : Str → Option Value} {f : Addr} (X : K.In h) (G : h.Ns mainGlobals mg) (hfa : mg ("law" : Str) = some (.ref f)) (c : SaysX qsX fnX K) :
    ∃ fd : FuncData, (∀ (s : Shared) (v : Value), BindsTo s fd ⟨[v], []⟩ [("_law_script", v)]) ∧ ∀ base : Heap, K.In base → base.Ns mainGlobals mg → FnTop PySem.Challenge.pw_trunkweb_k70_checks_of_shares w K mg base CX0 f fd ["_law_script"] (spD K mg X0 [.sc] .fr m_law) := by
  obtain ⟨fd_fraction, F_fraction⟩ := c.def_ 0 (d := ⟨("fraction", none), "fraction", "fraction", defArgs s_fraction, defBody s_fraction, defScope s_fraction, [], []⟩) rfl
  obtain ⟨fd_plus, F_plus⟩ := c.def_ 1 (d := ⟨("plus", none), "plus", "plus", defArgs s_plus, defBody s_plus, defScope s_plus, [], []⟩) rfl
  obtain ⟨fd_times, F_times⟩ := c.def_ 2 (d := ⟨("times", none), "times", "times", defArgs s_times, defBody s_times, defScope s_times, [], []⟩) rfl
  obtain ⟨fd_over, F_over⟩ := c.def_ 3 (d := ⟨("over", none), "over", "over", defArgs s_over, defBody s_over, defScope s_over, [], []⟩) rfl
  obtain ⟨fd_is_less, F_is_less⟩ := c.def_ 4 (d := ⟨("is_less", none), "is_less", "is_less", defArgs s_is_less, defBody s_is_less, defScope s_is_less, [], []⟩) rfl
  obtain ⟨fd_added, F_added⟩ := c.def_ 5 (d := ⟨("added", none), "added", "added", defArgs s_added, defBody s_added, defScope s_added, [], []⟩) rfl
  obtain ⟨fd_check_sets, F_check_sets⟩ := c.def_ 6 (d := ⟨("check_sets", none), "check_sets", "check_sets", defArgs s_check_sets, defBody s_check_sets, defScope s_check_sets, [], []⟩) rfl
  obtain ⟨fd_next_set, F_next_set⟩ := c.def_ 7 (d := ⟨("next_set", none), "next_set", "next_set", defArgs s_next_set, defBody s_next_set, defScope s_next_set, [], []⟩) rfl
  obtain ⟨fd_quick_cover, F_quick_cover⟩ := c.def_ 8 (d := ⟨("quick_cover", none), "quick_cover", "quick_cover", defArgs s_quick_cover, defBody s_quick_cover, defScope s_quick_cover, [], []⟩) rfl
  obtain ⟨fd_harmonic, F_harmonic⟩ := c.def_ 9 (d := ⟨("harmonic", none), "harmonic", "harmonic", defArgs s_harmonic, defBody s_harmonic, defScope s_harmonic, [], []⟩) rfl
  obtain ⟨fd_cover_factor, F_cover_factor⟩ := c.def_ 10 (d := ⟨("cover_factor", none), "cover_factor", "cover_factor", defArgs s_cover_factor, defBody s_cover_factor, defScope s_cover_factor, [], []⟩) rfl
  obtain ⟨fd_check_shares, F_check_shares⟩ := c.def_ 11 (d := ⟨("check_shares", none), "check_shares", "check_shares", defArgs s_check_shares, defBody s_check_shares, defScope s_check_shares, [], []⟩) rfl
  obtain ⟨fd_cover_bound, F_cover_bound⟩ := c.def_ 12 (d := ⟨("cover_bound", none), "cover_bound", "cover_bound", defArgs s_cover_bound, defBody s_cover_bound, defScope s_cover_bound, [], []⟩) rfl
  obtain ⟨fd__law_numbers, F__law_numbers⟩ := c.def_ 13 (d := ⟨("_law_numbers", none), "_law_numbers", "_law_numbers", defArgs s__law_numbers, defBody s__law_numbers, defScope s__law_numbers, [], []⟩) rfl
  obtain ⟨fd__law_lowest, F__law_lowest⟩ := c.def_ 14 (d := ⟨("_law_lowest", none), "_law_lowest", "_law_lowest", defArgs s__law_lowest, defBody s__law_lowest, defScope s__law_lowest, [], []⟩) rfl
  obtain ⟨fd__law_plus, F__law_plus⟩ := c.def_ 15 (d := ⟨("_law_plus", none), "_law_plus", "_law_plus", defArgs s__law_plus, defBody s__law_plus, defScope s__law_plus, [], []⟩) rfl
  obtain ⟨fd__law_times, F__law_times⟩ := c.def_ 16 (d := ⟨("_law_times", none), "_law_times", "_law_times", defArgs s__law_times, defBody s__law_times, defScope s__law_times, [], []⟩) rfl
  obtain ⟨fd__law_less, F__law_less⟩ := c.def_ 17 (d := ⟨("_law_less", none), "_law_less", "_law_less", defArgs s__law_less, defBody s__law_less, defScope s__law_less, [], []⟩) rfl
  obtain ⟨fd__law_added, F__law_added⟩ := c.def_ 18 (d := ⟨("_law_added", none), "_law_added", "_law_added", defArgs s__law_added, defBody s__law_added, defScope s__law_added, [], []⟩) rfl
  obtain ⟨fd__law_sets, F__law_sets⟩ := c.def_ 19 (d := ⟨("_law_sets", none), "_law_sets", "_law_sets", defArgs s__law_sets, defBody s__law_sets, defScope s__law_sets, [], []⟩) rfl
  obtain ⟨fd__law_part, F__law_part⟩ := c.def_ 20 (d := ⟨("_law_part", none), "_law_part", "_law_part", defArgs s__law_part, defBody s__law_part, defScope s__law_part, [], []⟩) rfl
  obtain ⟨fd__law_due, F__law_due⟩ := c.def_ 21 (d := ⟨("_law_due", none), "_law_due", "_law_due", defArgs s__law_due, defBody s__law_due, defScope s__law_due, [], []⟩) rfl
  obtain ⟨fd__law_least, F__law_least⟩ := c.def_ 22 (d := ⟨("_law_least", none), "_law_least", "_law_least", defArgs s__law_least, defBody s__law_least, defScope s__law_least, [], []⟩) rfl
  obtain ⟨fd__law_changed, F__law_changed⟩ := c.def_ 23 (d := ⟨("_law_changed", none), "_law_changed", "_law_changed", defArgs s__law_changed, defBody s__law_changed, defScope s__law_changed, [], []⟩) rfl
  obtain ⟨fd_law, F_law⟩ := c.def_ 24 (d := ⟨("law", none), "law", "law", defArgs s_law, defBody s_law, defScope s_law, [], []⟩) rfl
  let T : Tp PySem.Challenge.pw_trunkweb_k70_checks_of_shares K mg := {
    a_fraction := He.ga K "fraction"
    fd_fraction := fd_fraction
    F_fraction := F_fraction
    g_fraction := He.glo_ok X G (c.fact 0)
    b_fraction := FunD.bindsN F_fraction fun _ _ _ _ _ _ us hl => match us, hl with | [_, _], _ => rfl
    a_plus := He.ga K "plus"
    fd_plus := fd_plus
    F_plus := F_plus
    g_plus := He.glo_ok X G (c.fact 1)
    b_plus := FunD.bindsN F_plus fun _ _ _ _ _ _ us hl => match us, hl with | [_, _], _ => rfl
    a_times := He.ga K "times"
    fd_times := fd_times
    F_times := F_times
    g_times := He.glo_ok X G (c.fact 2)
    b_times := FunD.bindsN F_times fun _ _ _ _ _ _ us hl => match us, hl with | [_, _], _ => rfl
    a_over := He.ga K "over"
    fd_over := fd_over
    F_over := F_over
    g_over := He.glo_ok X G (c.fact 3)
    b_over := FunD.bindsN F_over fun _ _ _ _ _ _ us hl => match us, hl with | [_, _], _ => rfl
    a_is_less := He.ga K "is_less"
    fd_is_less := fd_is_less
    F_is_less := F_is_less
    g_is_less := He.glo_ok X G (c.fact 4)
    b_is_less := FunD.bindsN F_is_less fun _ _ _ _ _ _ us hl => match us, hl with | [_, _], _ => rfl
    a_added := He.ga K "added"
    fd_added := fd_added
    F_added := F_added
    g_added := He.glo_ok X G (c.fact 5)
    b_added := FunD.bindsN F_added fun _ _ _ _ _ _ us hl => match us, hl with | [_], _ => rfl
    a_check_sets := He.ga K "check_sets"
    fd_check_sets := fd_check_sets
    F_check_sets := F_check_sets
    g_check_sets := He.glo_ok X G (c.fact 6)
    b_check_sets := FunD.bindsN F_check_sets fun _ _ _ _ _ _ us hl => match us, hl with | [_, _], _ => rfl
    a_next_set := He.ga K "next_set"
    fd_next_set := fd_next_set
    F_next_set := F_next_set
    g_next_set := He.glo_ok X G (c.fact 7)
    b_next_set := FunD.bindsN F_next_set fun _ _ _ _ _ _ us hl => match us, hl with | [_, _], _ => rfl
    a_quick_cover := He.ga K "quick_cover"
    fd_quick_cover := fd_quick_cover
    F_quick_cover := F_quick_cover
    g_quick_cover := He.glo_ok X G (c.fact 8)
    b_quick_cover := FunD.bindsN F_quick_cover fun _ _ _ _ _ _ us hl => match us, hl with | [_, _], _ => rfl
    a_harmonic := He.ga K "harmonic"
    fd_harmonic := fd_harmonic
    F_harmonic := F_harmonic
    g_harmonic := He.glo_ok X G (c.fact 9)
    b_harmonic := FunD.bindsN F_harmonic fun _ _ _ _ _ _ us hl => match us, hl with | [_], _ => rfl
    a_cover_factor := He.ga K "cover_factor"
    fd_cover_factor := fd_cover_factor
    F_cover_factor := F_cover_factor
    g_cover_factor := He.glo_ok X G (c.fact 10)
    b_cover_factor := FunD.bindsN F_cover_factor fun _ _ _ _ _ _ us hl => match us, hl with | [_, _], _ => rfl
    a_check_shares := He.ga K "check_shares"
    fd_check_shares := fd_check_shares
    F_check_shares := F_check_shares
    g_check_shares := He.glo_ok X G (c.fact 11)
    b_check_shares := FunD.bindsN F_check_shares fun _ _ _ _ _ _ us hl => match us, hl with | [_, _, _, _], _ => rfl
    a_cover_bound := He.ga K "cover_bound"
    fd_cover_bound := fd_cover_bound
    F_cover_bound := F_cover_bound
    g_cover_bound := He.glo_ok X G (c.fact 12)
    b_cover_bound := FunD.bindsN F_cover_bound fun _ _ _ _ _ _ us hl => match us, hl with | [_, _, _], _ => rfl
    a__law_numbers := He.ga K "_law_numbers"
    fd__law_numbers := fd__law_numbers
    F__law_numbers := F__law_numbers
    g__law_numbers := He.glo_ok X G (c.fact 13)
    b__law_numbers := FunD.bindsN F__law_numbers fun _ _ _ _ _ _ us hl => match us, hl with | [_, _], _ => rfl
    a__law_lowest := He.ga K "_law_lowest"
    fd__law_lowest := fd__law_lowest
    F__law_lowest := F__law_lowest
    g__law_lowest := He.glo_ok X G (c.fact 14)
    b__law_lowest := FunD.bindsN F__law_lowest fun _ _ _ _ _ _ us hl => match us, hl with | [_, _], _ => rfl
    a__law_plus := He.ga K "_law_plus"
    fd__law_plus := fd__law_plus
    F__law_plus := F__law_plus
    g__law_plus := He.glo_ok X G (c.fact 15)
    b__law_plus := FunD.bindsN F__law_plus fun _ _ _ _ _ _ us hl => match us, hl with | [_, _], _ => rfl
    a__law_times := He.ga K "_law_times"
    fd__law_times := fd__law_times
    F__law_times := F__law_times
    g__law_times := He.glo_ok X G (c.fact 16)
    b__law_times := FunD.bindsN F__law_times fun _ _ _ _ _ _ us hl => match us, hl with | [_, _], _ => rfl
    a__law_less := He.ga K "_law_less"
    fd__law_less := fd__law_less
    F__law_less := F__law_less
    g__law_less := He.glo_ok X G (c.fact 17)
    b__law_less := FunD.bindsN F__law_less fun _ _ _ _ _ _ us hl => match us, hl with | [_, _], _ => rfl
    a__law_added := He.ga K "_law_added"
    fd__law_added := fd__law_added
    F__law_added := F__law_added
    g__law_added := He.glo_ok X G (c.fact 18)
    b__law_added := FunD.bindsN F__law_added fun _ _ _ _ _ _ us hl => match us, hl with | [_], _ => rfl
    a__law_sets := He.ga K "_law_sets"
    fd__law_sets := fd__law_sets
    F__law_sets := F__law_sets
    g__law_sets := He.glo_ok X G (c.fact 19)
    b__law_sets := FunD.bindsN F__law_sets fun _ _ _ _ _ _ us hl => match us, hl with | [_, _, _, _], _ => rfl
    a__law_part := He.ga K "_law_part"
    fd__law_part := fd__law_part
    F__law_part := F__law_part
    g__law_part := He.glo_ok X G (c.fact 20)
    b__law_part := FunD.bindsN F__law_part fun _ _ _ _ _ _ us hl => match us, hl with | [_], _ => rfl
    a__law_due := He.ga K "_law_due"
    fd__law_due := fd__law_due
    F__law_due := F__law_due
    g__law_due := He.glo_ok X G (c.fact 21)
    b__law_due := FunD.bindsN F__law_due fun _ _ _ _ _ _ us hl => match us, hl with | [_, _, _, _], _ => rfl
    a__law_least := He.ga K "_law_least"
    fd__law_least := fd__law_least
    F__law_least := F__law_least
    g__law_least := He.glo_ok X G (c.fact 22)
    b__law_least := FunD.bindsN F__law_least fun _ _ _ _ _ _ us hl => match us, hl with | [_, _], _ => rfl
    a__law_changed := He.ga K "_law_changed"
    fd__law_changed := fd__law_changed
    F__law_changed := F__law_changed
    g__law_changed := He.glo_ok X G (c.fact 23)
    b__law_changed := FunD.bindsN F__law_changed fun _ _ _ _ _ _ us hl => match us, hl with | [_, _, _, _, _, _], _ => rfl
    a_law := He.ga K "law"
    fd_law := fd_law
    F_law := F_law
    g_law := He.glo_ok X G (c.fact 24)
    b_law := FunD.bindsN F_law fun _ _ _ _ _ _ us hl => match us, hl with | [_], _ => rfl
    k_MOST_ELEMENTS := He.int_ok X G (c.fact 25)
    k_MOST_PRICE := He.int_ok X G (c.fact 26)
    k_MOST_SETS := He.int_ok X G (c.fact 27)
    a_ZERO := He.ga K "ZERO"
    g_ZERO := He.glo_ok X G (c.fact 28)
    d_ZERO := fun F => ⟨_, _, rfl, He.tupB_ok (c.fact 29) F, ⟨_, _, rfl, rfl, ⟨_, _, rfl, rfl, rfl⟩⟩⟩
    z_abs := He.free_ok X G (c.fact 30)
    z_all := He.free_ok X G (c.fact 31)
    z_any := He.free_ok X G (c.fact 32)
    z_gcd := bltB_ok X G (c.fact 33)
    z_int := He.free_ok X G (c.fact 34)
    z_len := He.free_ok X G (c.fact 35)
    z_list := He.free_ok X G (c.fact 36)
    z_max := He.free_ok X G (c.fact 37)
    z_min := He.free_ok X G (c.fact 38)
    z_range := He.free_ok X G (c.fact 39)
    z_repr := He.free_ok X G (c.fact 40)
    z_set := He.free_ok X G (c.fact 41)
    z_sorted := He.free_ok X G (c.fact 42)
    z_sum := He.free_ok X G (c.fact 43)
  }
  have e := hfa.symm.trans T.g_law
  cases e
  exact ⟨fd_law, fun s v => FunD.bindsA (ps := ["_law_script"]) F_law (fun _ _ _ _ _ _ us hl => match us, hl with | [_], _ => rfl) s [v] rfl, fun base _ _ => ok_law T⟩
end M
open PySem PySem.W PySem.Calls PyProof.Rows
set_option maxHeartbeats 0 in
theorem PySem.Challenge.cw_trunkweb_k70_checks_of_shares_holds : PySem.Challenge.rw_trunkweb_k70_checks_of_shares.Holds := by
  w_on; o_law; k_head; (case hw => w_witness2)
  k_fill
  refine DL.walk_top (l := PySem.Challenge.rw_trunkweb_k70_checks_of_shares) (n := 63) (x := "_law_script") (CX := L2.CX0) rfl (by decide) (by kernel_rfl) ?F (fun _ _ _ _ z => z)
  case F =>
    intro w mg fa h Y G hmg
    have KX := PySem.W.kIn_of Y
    obtain ⟨fd, hb, hF⟩ := M.facts (w := w) KX G hmg (show DL.obsX M.qsX M.fnX _ = He.valD M.fnX by kernel_rfl)
    exact ⟨_, fd, DL.spD _ mg DL.X0 [.sc] .fr M.m_law, KX, hb, fun H a ns hl _ hS => DL.law_end (M.law_true ns hl) hS, hF⟩
end
