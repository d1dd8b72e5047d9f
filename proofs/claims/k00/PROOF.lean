import PyProof.Rows.All
import HandS.ForMost
import HandS.Wide
import HandS.Gcd
import HandS.SortInts
import HandS.Flow
import HandS.Style
import HandS.Deep
import HandS.TupAny
import KE.KSortedM
import HandS.Steps
import HandS.Conv
import HandS.Defaults
import HandS.Head0
import HandS.Head1
import HandS.Head2
import HandS.HeadEnd
import HandS.HeadHook1
import HandS.HeadHook2
import HandS.ExcInit
import HandS.Codes
import KE.KExcSuper
import HandS.ExcField
import HandS.ExcIs
import HandS.ExcOwn
import KE.KExcIs
import HandS.Iter
import PyProof.ReprLen
import PyProof.Rows.ReprOcc
import PySem.Challenge.RW_trunkweb_k00_networks
set_option Elab.async false
set_option linter.all false
/-! text DL0 -/
section
set_option maxRecDepth 100000
set_option maxHeartbeats 4000000
/-! the data layer, part 0: data, modes, what represents what -/
namespace DL
open PySem PySem.Spec PyProof.Rows L2

inductive DV where
  | non | bl (b : Bool) | int (i : Int) | str (x : Str)
  | tup (ds : List DV) | lst (ds : List DV)
  | dct (ks : List Key) (ds : List DV)
  | obj (c : Str) (ns : List Str) (ds : List DV)

abbrev EnvD := List (Option DV)
inductive Rs (α : Type) where
  | ok (a : α) | ex (c : Str) (d : DV) | stuck
@[reducible] def Rs.bind {α β : Type} (r : Rs α) (f : α → Rs β) : Rs β := match r with
  | .ok a => f a
  | .ex c d => .ex c d
  | .stuck => .stuck
inductive Out where
  | nx (ρ : EnvD) | rt (d : DV) (ρ : EnvD) | bk (ρ : EnvD) | ct (ρ : EnvD) | ex (c : Str) (d : DV) | stuck
theorem bind_ok {α β : Type} {r : Rs α} {f : α → Rs β} {b : β} (h : r.bind f = .ok b) : ∃ a, r = .ok a ∧ f a = .ok b := by
  cases r with
  | ok a => exact ⟨a, rfl, h⟩
  | ex c d => cases h
  | stuck => cases h

/-- modes: frozen, borrowed (ahead of the call), peeked, owned list or dict, tuple of .., owned object, peeked object -/
inductive Md where
  | fr | bo | sc | pk (m : Md) | own (m : Md) | tu (m : Md) | ob (m : Md) | po (m : Md)
  deriving DecidableEq
@[reducible] def Md.stor : Md → Bool
  | .fr => true
  | .bo => true
  | .sc => true
  | .pk _ => false
  | .own m => m.stor
  | .tu m => m.stor
  | .ob m => m.stor
  | .po _ => false
@[reducible] def Md.peek : Md → Md
  | .fr => .fr
  | .bo => .bo
  | .sc => .sc
  | .pk m => .pk m.peek
  | .own m => .pk m.peek
  | .tu m => .tu m.peek
  | .ob m => .po m.peek
  | .po m => .po m.peek
@[reducible] def Md.kid : Md → Md
  | .fr => .fr
  | .bo => .bo
  | .sc => .fr
  | .pk m => m
  | .own m => m
  | .tu m => m
  | .ob m => m
  | .po m => m
/-- is it data that DA reads -/
@[reducible] def Md.rd : Md → Bool
  | .fr => true
  | .bo => true
  | .sc => false
  | .pk m => m.rd
  | .own m => m.rd
  | .tu m => m.rd
  | .ob m => m.rd
  | .po m => m.rd
/-- no place of it is owned -/
@[reducible] def Md.free : Md → Bool
  | .fr => true
  | .bo => true
  | .sc => true
  | .pk m => m.free
  | .own _ => false
  | .tu m => m.free
  | .ob _ => false
  | .po m => m.free

structure Cxt where
  K : PySem.W.Frag
  mg : Str → Option Value
  Bp : Hp
  F0 : Hp
  io : List (Nat × V × Md)

mutual
def DA (K : PySem.W.Frag) (mg : Str → Option Value) (F : Hp) : DV → V → Prop
  | .non, v => v = .non
  | .bl b, v => v = .bl b
  | .int i, v => v = .int i
  | .str x, v => v = .str x
  | .tup ds, v => ∃ a vs, v = .ref a ∧ SqT K F a vs ∧ DAs K mg F ds vs
  | .lst ds, v => ∃ a vs, v = .ref a ∧ Rd F a (.lst vs) ∧ DAs K mg F ds vs
  | .dct ks ds, v => ∃ a vs, v = .ref a ∧ (F a = some (.dK (ks.zip vs)) ∧ ks.length = vs.length) ∧ DAs K mg F ds vs
  | .obj c ns ds, v => ∃ a vs, v = .ref a ∧ (∃ C dx, mg c = some (.ref C) ∧ F a = some (.ins C dx (ns.zip vs)) ∧ ns.length = vs.length) ∧ DAs K mg F ds vs
def DAs (K : PySem.W.Frag) (mg : Str → Option Value) (F : Hp) : List DV → List V → Prop
  | [], vs => vs = []
  | d :: ds, vs => ∃ v r, vs = v :: r ∧ DA K mg F d v ∧ DAs K mg F ds r
end

def kids : DV → List DV
  | .tup ds => ds
  | .lst ds => ds
  | .dct _ ds => ds
  | .obj _ _ ds => ds
  | _ => []
/-- the node of a list, a dict, an instance -/
def Node (mg : Str → Option Value) (d : DV) (vs : List V) (o : HO) : Prop := match d with
  | .lst _ => o = .lst vs
  | .dct ks _ => o = .dK (ks.zip vs) ∧ ks.length = vs.length
  | .obj c ns _ => ∃ C dx, mg c = some (.ref C) ∧ o = .ins C dx (ns.zip vs) ∧ ns.length = vs.length
  | _ => False
/-- such a node that is read -/
def RdNode (K : PySem.W.Frag) (mg : Str → Option Value) (H : Hp) (a : Addr) (d : DV) (vs : List V) : Prop := match d with
  | .lst _ => Rd H a (.lst vs)
  | .dct ks _ => H a = some (.dK (ks.zip vs)) ∧ ks.length = vs.length
  | .obj c ns _ => ∃ C dx, mg c = some (.ref C) ∧ H a = some (.ins C dx (ns.zip vs)) ∧ ns.length = vs.length
  | _ => False
def isLD : DV → Bool
  | .lst _ => true
  | .dct _ _ => true
  | _ => false
def isObj : DV → Bool
  | .obj _ _ _ => true
  | _ => false
def isTup : DV → Bool
  | .tup _ => true
  | _ => false
/-- is this data's node of the kind that this mode speaks of -/
def Md.on : Md → DV → Bool
  | .own _, d => isLD d
  | .pk _, d => isLD d
  | .tu _, d => isTup d
  | .ob _, d => isObj d
  | .po _, d => isObj d
  | _, _ => false

def Alls (R : DV → V → List Addr → Prop) : List DV → List V → List Addr → Prop
  | [], vs, fp => vs = [] ∧ fp = []
  | d :: ds, vs, fp => ∃ v r f1 f2, vs = v :: r ∧ fp = f1 ++ f2 ∧ R d v f1 ∧ Alls R ds r f2

/-- v stands for the data d in this mode; fp: the owned addresses -/
def At (C : Cxt) (F H : Hp) : Md → DV → V → List Addr → Prop
  | .fr, d, v, fp => fp = [] ∧ DA C.K C.mg F d v
  | .bo, d, v, fp => fp = [] ∧ DA C.K C.mg C.Bp d v
  | .sc, d, v, fp => fp = [] ∧ ∃ (a : Addr) (ns : List Int), v = .ref a ∧ d = .lst (ns.map DV.int) ∧ SqL C.K F a (ns.map V.int)
  | .pk m, d, v, fp => if isLD d = true then ∃ a vs, v = .ref a ∧ RdNode C.K C.mg H a d vs ∧ Alls (At C F H m) (kids d) vs fp else fp = [] ∧ DA C.K C.mg F d v
  | .po m, d, v, fp => if isObj d = true then ∃ a vs, v = .ref a ∧ RdNode C.K C.mg H a d vs ∧ Alls (At C F H m) (kids d) vs fp else fp = [] ∧ DA C.K C.mg F d v
  | .own m, d, v, fp => if isLD d = true then ∃ a vs o fc, v = .ref a ∧ F a = none ∧ C.Bp a = none ∧ H a = some o ∧ Node C.mg d vs o ∧ fp = a :: fc ∧ Alls (At C F H m) (kids d) vs fc else fp = [] ∧ DA C.K C.mg F d v
  | .ob m, d, v, fp => if isObj d = true then ∃ a vs o fc, v = .ref a ∧ F a = none ∧ C.Bp a = none ∧ H a = some o ∧ Node C.mg d vs o ∧ fp = a :: fc ∧ Alls (At C F H m) (kids d) vs fc else fp = [] ∧ DA C.K C.mg F d v
  | .tu m, d, v, fp => if isTup d = true then ∃ a vs, v = .ref a ∧ SqT C.K F a vs ∧ Alls (At C F H m) (kids d) vs fp else fp = [] ∧ DA C.K C.mg F d v

/-! ### heaps -/
theorem same_rd {H H' : Hp} {a : Addr} {u : HO} (e : Same H H') (h : Rd H a u) : Rd H' a u := by
  rcases h with h | ⟨o, h⟩
  · exact .inl (e _ _ h)
  · exact .inr ⟨o, e _ _ h⟩
theorem same_sqt {K : PySem.W.Frag} {H H' : Hp} {a : Addr} {xs : List V} (e : Same H H') (h : SqT K H a xs) : SqT K H' a xs := by
  rcases h with (h | ⟨o, h⟩) | h
  · exact .inl (.inl (e _ _ h))
  · exact .inl (.inr ⟨o, e _ _ h⟩)
  · exact .inr h
theorem same_upd {H : Hp} {p : Addr} {o : HO} (h : H p = none) : Same H (upd H p o) := fun b x e => by
  rw [upd_ne (ne_of_none e h)]
  exact e
theorem Same.none' {H H' : Hp} (e : Same H H') {a : Addr} (h : H' a = none) : H a = none := e.free h

/-! ### frozen data -/
section
variable {K : PySem.W.Frag} {mg : Str → Option Value} {F F' : Hp}
mutual
theorem DA.mono (e : Same F F') : ∀ (d : DV) (v : V), DA K mg F d v → DA K mg F' d v
  | .non, _, h => h
  | .bl _, _, h => h
  | .int _, _, h => h
  | .str _, _, h => h
  | .tup ds, _, ⟨a, vs, h1, h2, h3⟩ => ⟨a, vs, h1, same_sqt e h2, DAs.mono e ds vs h3⟩
  | .lst ds, _, ⟨a, vs, h1, h2, h3⟩ => ⟨a, vs, h1, same_rd e h2, DAs.mono e ds vs h3⟩
  | .dct _ ds, _, ⟨a, vs, h1, ⟨h2, h4⟩, h3⟩ => ⟨a, vs, h1, ⟨e _ _ h2, h4⟩, DAs.mono e ds vs h3⟩
  | .obj _ _ ds, _, ⟨a, vs, h1, ⟨C, dx, g, h2, h4⟩, h3⟩ => ⟨a, vs, h1, ⟨C, dx, g, e _ _ h2, h4⟩, DAs.mono e ds vs h3⟩
theorem DAs.mono (e : Same F F') : ∀ (ds : List DV) (vs : List V), DAs K mg F ds vs → DAs K mg F' ds vs
  | [], _, h => h
  | d :: ds, _, ⟨v, r, h1, h2, h3⟩ => ⟨v, r, h1, DA.mono e d v h2, DAs.mono e ds r h3⟩
end
theorem DAs.length : ∀ {ds : List DV} {vs : List V}, DAs K mg F ds vs → ds.length = vs.length
  | [], _, h => by cases h; rfl
  | d :: ds, _, ⟨v, r, h1, _, h3⟩ => by
    subst h1
    rw [List.length_cons, List.length_cons, DAs.length h3]
theorem DAs.get : ∀ {ds : List DV} {vs : List V} {i : Nat} {d : DV}, DAs K mg F ds vs → ds[i]? = some d → ∃ v, vs[i]? = some v ∧ DA K mg F d v
  | [], _, i, d, _, e => by simp at e
  | d :: ds, _, 0, _, ⟨v, r, h1, h2, _⟩, e => by
    subst h1
    simp at e
    subst e
    exact ⟨v, rfl, h2⟩
  | d :: ds, _, i + 1, _, ⟨v, r, h1, _, h3⟩, e => by
    subst h1
    exact DAs.get h3 (i := i) (by simpa using e)
end

/-! ### Alls -/
section
variable {R R' : DV → V → List Addr → Prop}
theorem Alls.length : ∀ {ds : List DV} {vs : List V} {fp : List Addr}, Alls R ds vs fp → ds.length = vs.length
  | [], _, _, h => by cases h.1; rfl
  | d :: ds, _, _, ⟨v, r, f1, f2, h1, _, _, h3⟩ => by
    subst h1
    rw [List.length_cons, List.length_cons, Alls.length h3]
theorem Alls.imp : ∀ {ds : List DV} {vs : List V} {fp : List Addr}, Alls R ds vs fp → (∀ d v f, (∀ a ∈ f, a ∈ fp) → R d v f → R' d v f) → Alls R' ds vs fp
  | [], _, _, h, _ => h
  | d :: ds, _, _, ⟨v, r, f1, f2, h1, h2, h3, h4⟩, k => ⟨v, r, f1, f2, h1, h2, k d v f1 (fun a ha => by rw [h2]; exact List.mem_append_left _ ha) h3,
      Alls.imp h4 fun d v f hf => k d v f fun a ha => by rw [h2]; exact List.mem_append_right _ (hf a ha)⟩
/-- footprints forgotten -/
theorem Alls.pt : ∀ {ds : List DV} {vs : List V} {fp : List Addr}, Alls R ds vs fp → (∀ d v f, R d v f → R' d v []) → Alls R' ds vs []
  | [], _, _, h, _ => ⟨h.1, rfl⟩
  | d :: ds, _, _, ⟨v, r, f1, f2, h1, h2, h3, h4⟩, k => ⟨v, r, [], [], h1, rfl, k d v f1 h3, Alls.pt h4 k⟩
theorem Alls.das {K : PySem.W.Frag} {mg : Str → Option Value} {F : Hp} : ∀ {ds : List DV} {vs : List V} {fp : List Addr}, Alls R ds vs fp → (∀ d v f, (∀ a ∈ f, a ∈ fp) → R d v f → DA K mg F d v) → DAs K mg F ds vs
  | [], _, _, h, _ => h.1
  | d :: ds, _, _, ⟨v, r, f1, f2, h1, h2, h3, h4⟩, k => ⟨v, r, h1, k d v f1 (fun a ha => by rw [h2]; exact List.mem_append_left _ ha) h3,
      Alls.das h4 fun d v f hf => k d v f fun a ha => by rw [h2]; exact List.mem_append_right _ (hf a ha)⟩
theorem Alls.of_das {K : PySem.W.Frag} {mg : Str → Option Value} {F : Hp} : ∀ {ds : List DV} {vs : List V}, DAs K mg F ds vs → (∀ d v, DA K mg F d v → R d v []) → Alls R ds vs []
  | [], _, h, _ => ⟨h, rfl⟩
  | d :: ds, _, ⟨v, r, h1, h2, h3⟩, k => ⟨v, r, [], [], h1, rfl, k d v h2, Alls.of_das h3 k⟩
theorem Alls.nil_fp : ∀ {ds : List DV} {vs : List V} {fp : List Addr}, Alls R ds vs fp → (∀ d v f, R d v f → f = []) → fp = []
  | [], _, _, h, _ => h.2
  | d :: ds, _, _, ⟨v, r, f1, f2, h1, h2, h3, h4⟩, k => by rw [h2, k d v f1 h3, Alls.nil_fp h4 k]; rfl
theorem Alls.get : ∀ {ds : List DV} {vs : List V} {fp : List Addr} {i : Nat} {d : DV}, Alls R ds vs fp → ds[i]? = some d → ∃ v f, vs[i]? = some v ∧ R d v f ∧ ∀ a ∈ f, a ∈ fp
  | [], _, _, i, d, _, e => by simp at e
  | d :: ds, _, _, 0, _, ⟨v, r, f1, f2, h1, h2, h3, _⟩, e => by
    subst h1
    simp at e
    subst e
    exact ⟨v, f1, rfl, h3, fun a ha => by rw [h2]; exact List.mem_append_left _ ha⟩
  | d :: ds, _, _, i + 1, _, ⟨v, r, f1, f2, h1, h2, _, h4⟩, e => by
    subst h1
    obtain ⟨w, f, e1, e2, e3⟩ := Alls.get h4 (i := i) (by simpa using e)
    exact ⟨w, f, by simpa using e1, e2, fun a ha => by rw [h2]; exact List.mem_append_right _ (e3 a ha)⟩
theorem Alls.append : ∀ {ds es : List DV} {vs ws : List V} {f g : List Addr}, Alls R ds vs f → Alls R es ws g → Alls R (ds ++ es) (vs ++ ws) (f ++ g)
  | [], _, _, _, _, _, h, k => by rw [h.1, h.2]; exact k
  | d :: ds, _, _, _, _, _, ⟨v, r, f1, f2, h1, h2, h3, h4⟩, k => ⟨v, _, f1, f2 ++ _, by rw [h1]; rfl, by rw [h2, List.append_assoc], h3, Alls.append h4 k⟩
theorem Alls.one {d : DV} {v : V} {f : List Addr} (h : R d v f) : Alls R [d] [v] f := ⟨v, [], f, [], rfl, by rw [List.append_nil], h, rfl, rfl⟩
end

/-! ### At -/
section
variable {C : Cxt} {F F' H H' : Hp}
theorem RdNode.mono {K : PySem.W.Frag} {mg : Str → Option Value} {a : Addr} {d : DV} {vs : List V} (e : Same H H') (h : RdNode K mg H a d vs) : RdNode K mg H' a d vs := by
  cases d with
  | lst ds => exact same_rd e h
  | dct ks ds => exact ⟨e _ _ h.1, h.2⟩
  | obj c ns ds => obtain ⟨C, dx, g, h1, h2⟩ := h; exact ⟨C, dx, g, e _ _ h1, h2⟩
  | _ => exact h
theorem Node.rd {K : PySem.W.Frag} {mg : Str → Option Value} {a : Addr} {d : DV} {vs : List V} {o : HO} (h : Node mg d vs o) (e : H a = some o) : RdNode K mg H a d vs := by
  cases d with
  | lst ds => obtain rfl : o = .lst vs := h; exact .inl e
  | dct ks ds => obtain ⟨rfl, l⟩ := h; exact ⟨e, l⟩
  | obj c ns ds => obtain ⟨C, dx, g, rfl, l⟩ := h; exact ⟨C, dx, g, e, l⟩
  | _ => exact h
theorem RdNode.da {K : PySem.W.Frag} {mg : Str → Option Value} {a : Addr} {d : DV} {vs : List V} (h : RdNode K mg H a d vs) (k : DAs K mg H (kids d) vs) : DA K mg H d (.ref a) := by
  cases d with
  | lst ds => exact ⟨a, vs, rfl, h, k⟩
  | dct ks ds => exact ⟨a, vs, rfl, h, k⟩
  | obj c ns ds => exact ⟨a, vs, rfl, h, k⟩
  | _ => exact h.elim

theorem At.mono : ∀ {m : Md} {d : DV} {v : V} {fp : List Addr}, At C F H m d v fp → Same F F' → (∀ a ∈ fp, F' a = none) → (∀ a ∈ fp, H' a = H a) → (m.stor = true ∨ Same H H') → At C F' H' m d v fp := by
  intro m
  induction m with
  | fr => intro d v fp h e _ _ _; exact ⟨h.1, DA.mono e _ _ h.2⟩
  | bo => intro d v fp h e _ _ _; exact h
  | sc => intro d v fp ⟨h, a, ns, h1, h2, h3⟩ e _ _ _; exact ⟨h, a, ns, h1, h2, e.seq h3⟩
  | pk m ih =>
    intro d v fp h e n k s
    have s : Same H H' := by
      rcases s with s | s
      · cases s
      · exact s
    unfold At at h ⊢
    split at h
    · rename_i q
      rw [if_pos q]
      obtain ⟨a, vs, h1, h2, h3⟩ := h
      exact ⟨a, vs, h1, h2.mono s, h3.imp fun d v f hf x => ih x e (fun a ha => n a (hf a ha)) (fun a ha => k a (hf a ha)) (.inr s)⟩
    · rename_i q
      rw [if_neg q]
      exact ⟨h.1, DA.mono e _ _ h.2⟩
  | po m ih =>
    intro d v fp h e n k s
    have s : Same H H' := by
      rcases s with s | s
      · cases s
      · exact s
    unfold At at h ⊢
    split at h
    · rename_i q
      rw [if_pos q]
      obtain ⟨a, vs, h1, h2, h3⟩ := h
      exact ⟨a, vs, h1, h2.mono s, h3.imp fun d v f hf x => ih x e (fun a ha => n a (hf a ha)) (fun a ha => k a (hf a ha)) (.inr s)⟩
    · rename_i q
      rw [if_neg q]
      exact ⟨h.1, DA.mono e _ _ h.2⟩
  | own m ih =>
    intro d v fp h e n k s
    unfold At at h ⊢
    split at h
    · rename_i q
      rw [if_pos q]
      obtain ⟨a, vs, o, fc, h1, h2, h3, h4, h5, h6, h7⟩ := h
      subst h6
      exact ⟨a, vs, o, fc, h1, n a List.mem_cons_self, h3, (k a List.mem_cons_self).trans h4, h5, rfl, h7.imp fun d v f hf x => ih x e (fun a ha => n a (List.mem_cons_of_mem _ (hf a ha))) (fun a ha => k a (List.mem_cons_of_mem _ (hf a ha))) s⟩
    · rename_i q
      rw [if_neg q]
      exact ⟨h.1, DA.mono e _ _ h.2⟩
  | ob m ih =>
    intro d v fp h e n k s
    unfold At at h ⊢
    split at h
    · rename_i q
      rw [if_pos q]
      obtain ⟨a, vs, o, fc, h1, h2, h3, h4, h5, h6, h7⟩ := h
      subst h6
      exact ⟨a, vs, o, fc, h1, n a List.mem_cons_self, h3, (k a List.mem_cons_self).trans h4, h5, rfl, h7.imp fun d v f hf x => ih x e (fun a ha => n a (List.mem_cons_of_mem _ (hf a ha))) (fun a ha => k a (List.mem_cons_of_mem _ (hf a ha))) s⟩
    · rename_i q
      rw [if_neg q]
      exact ⟨h.1, DA.mono e _ _ h.2⟩
  | tu m ih =>
    intro d v fp h e n k s
    unfold At at h ⊢
    split at h
    · rename_i q
      rw [if_pos q]
      obtain ⟨a, vs, h1, h2, h3⟩ := h
      exact ⟨a, vs, h1, same_sqt e h2, h3.imp fun d v f hf x => ih x e (fun a ha => n a (hf a ha)) (fun a ha => k a (hf a ha)) s⟩
    · rename_i q
      rw [if_neg q]
      exact ⟨h.1, DA.mono e _ _ h.2⟩

/-- what it stands for, read at H -/
theorem At.da (s : Same F H) (b : Same C.Bp H) : ∀ {m : Md} {d : DV} {v : V} {fp : List Addr}, m.rd = true → At C F H m d v fp → DA C.K C.mg H d v := by
  intro m
  induction m with
  | fr => intro d v fp _ h; exact DA.mono s _ _ h.2
  | bo => intro d v fp _ h; exact DA.mono b _ _ h.2
  | sc => intro d v fp q; cases q
  | pk m ih | po m ih =>
    intro d v fp q h
    unfold At at h
    split at h
    · obtain ⟨a, vs, rfl, h2, h3⟩ := h
      exact h2.da (h3.das fun d v f _ x => ih q x)
    · exact DA.mono s _ _ h.2
  | own m ih | ob m ih =>
    intro d v fp q h
    unfold At at h
    split at h
    · obtain ⟨a, vs, o, fc, rfl, h2, h3, h4, h5, h6, h7⟩ := h
      exact (h5.rd h4).da (h7.das fun d v f _ x => ih q x)
    · exact DA.mono s _ _ h.2
  | tu m ih =>
    intro d v fp q0 h
    unfold At at h
    split at h
    · rename_i q
      cases d with
      | tup ds =>
        obtain ⟨a, vs, rfl, h2, h3⟩ := h
        exact ⟨a, vs, rfl, same_sqt s h2, h3.das fun d v f _ x => ih q0 x⟩
      | _ => cases q
    · exact DA.mono s _ _ h.2
theorem At.free_nil : ∀ {m : Md} {d : DV} {v : V} {fp : List Addr}, m.free = true → At C F H m d v fp → fp = [] := by
  intro m
  induction m with
  | fr => intro d v fp _ h; exact h.1
  | bo => intro d v fp _ h; exact h.1
  | sc => intro d v fp _ h; exact h.1
  | pk m ih | po m ih | tu m ih =>
    intro d v fp q h
    unfold At at h
    split at h
    · obtain ⟨a, vs, _, _, h3⟩ := h
      exact h3.nil_fp fun d v f x => ih q x
    · exact h.1
  | own m ih | ob m ih => intro d v fp q; cases q
theorem At.peek : ∀ {m : Md} {d : DV} {v : V} {fp : List Addr}, At C F H m d v fp → At C F H m.peek d v [] := by
  intro m
  induction m with
  | fr => intro d v fp h; exact ⟨rfl, h.2⟩
  | bo => intro d v fp h; exact ⟨rfl, h.2⟩
  | sc => intro d v fp h; exact ⟨rfl, h.2⟩
  | pk m ih | po m ih | tu m ih =>
    intro d v fp h
    unfold At at h
    unfold Md.peek At
    split at h
    · rename_i q
      rw [if_pos q]
      obtain ⟨a, vs, h1, h2, h3⟩ := h
      exact ⟨a, vs, h1, h2, h3.pt fun d v f x => ih x⟩
    · rename_i q
      rw [if_neg q]
      exact ⟨rfl, h.2⟩
  | own m ih | ob m ih =>
    intro d v fp h
    unfold At at h
    unfold Md.peek At
    split at h
    · rename_i q
      rw [if_pos q]
      obtain ⟨a, vs, o, fc, h1, h2, h3, h4, h5, h6, h7⟩ := h
      exact ⟨a, vs, h1, h5.rd h4, h7.pt fun d v f x => ih x⟩
    · rename_i q
      rw [if_neg q]
      exact ⟨rfl, h.2⟩
end
end DL
end

/-! text DL1 -/
section
set_option maxRecDepth 100000
set_option maxHeartbeats 4000000
/-! the data layer, part 1: the state and what a reading simulates -/
namespace DL
open PySem PySem.Spec PyProof.Rows L2

abbrev Ent := Md × DV × V
def SlotAt (C : Cxt) (F H : Hp) (m : Md) (s : Option V) (r : Option DV) (f : List Addr) : Prop := match r with
  | none => f = []
  | some d => ∃ v, s = some v ∧ At C F H m d v f
def Slots (C : Cxt) (F H : Hp) : List Md → L2.St → EnvD → List Addr → Prop
  | [], [], [], fp => fp = []
  | m :: Γ, s :: σ, r :: ρ, fp => ∃ f1 f2, fp = f1 ++ f2 ∧ SlotAt C F H m s r f1 ∧ Slots C F H Γ σ ρ f2
  | _, _, _, _ => False
def Exs (C : Cxt) (F H : Hp) : List Ent → List Addr → Prop
  | [], fp => fp = []
  | (m, d, v) :: L, fp => ∃ f1 f2, fp = f1 ++ f2 ∧ At C F H m d v f1 ∧ Exs C F H L f2

/-- a tuple, locked or not -/
def tupO : HO → Bool
  | .tup _ => true
  | .frz _ (.tup _) => true
  | _ => false
structure Fit (C : Cxt) (F H : Hp) : Prop where
  ff : Same C.F0 F
  fh : Same F H
  bh : Same C.Bp H
  f0 : ∀ a, F a ≠ none → C.F0 a ≠ none ∨ C.Bp a = none ∨ ∃ o, C.Bp a = some o ∧ tupO o = true
  tp : ∀ a o, H a = some o → tupO o = true → F a = some o
structure Rep (C : Cxt) (F H : Hp) (Γ : List Md) (σ : L2.St) (ρ : EnvD) (L : List Ent) : Prop where
  fit : Fit C F H
  io : ∀ p ∈ C.io, σ[p.1]? = some (some p.2.1) ∧ Γ[p.1]? = some p.2.2
  own : ∃ f1 f2, (f1 ++ f2).Nodup ∧ Slots C F H Γ σ ρ f1 ∧ Exs C F H L f2

section
variable {C : Cxt} {F F' H H' : Hp} {Γ Γ' : List Md} {σ σ' : L2.St} {ρ ρ' : EnvD} {L L' : List Ent} {m m' : Md} {d : DV} {v : V} {fp : List Addr}

/-- something else than a tuple is laid -/
theorem Fit.alloc (e : Fit C F H) (s : Same H H') (nt : ∀ a o, H' a = some o → tupO o = true → H a = some o) : Fit C F H' := ⟨e.ff, e.fh.trans s, e.bh.trans s, e.f0, fun a o h q => e.tp a o (nt a o h q) q⟩
/-- tuples that H holds are frozen -/
def allT (F H : Hp) : Hp := fun a => match H a with
  | some o => if tupO o = true then some o else F a
  | none => F a
theorem allT_same (s : Same F H) : Same F (allT F H) := fun a o e => by
  have h := s a o e
  unfold allT
  rw [h]
  show (if tupO o = true then some o else F a) = some o
  split
  · rfl
  · exact e
theorem allT_le (s : Same F H) : Same (allT F H) H := fun a o e => by
  unfold allT at e
  split at e
  · rename_i u h
    split at e
    · rw [h]; exact e
    · exact s a o e
  · exact s a o e
theorem allT_tp {a : Addr} {o : HO} (h : H a = some o) (q : tupO o = true) : allT F H a = some o := by
  unfold allT
  rw [h]
  exact if_pos q
theorem allT_out {a : Addr} (h : ∀ o, H a = some o → tupO o = false) : allT F H a = F a := by
  unfold allT
  split
  · rename_i o e
    rw [h o e]
    rfl
  · rfl

theorem Slots.mono : ∀ {Γ : List Md} {σ : L2.St} {ρ : EnvD} {fp : List Addr}, Slots C F H Γ σ ρ fp → Same F F' → (∀ a ∈ fp, F' a = none) → (∀ a ∈ fp, H' a = H a) → (Γ.all Md.stor = true ∨ Same H H') → Slots C F' H' Γ σ ρ fp
  | [], [], [], _, h, _, _, _, _ => h
  | m :: Γ, s :: σ, r :: ρ, _, ⟨f1, f2, h1, h2, h3⟩, e, n, k, z => by
    subst h1
    have z1 : m.stor = true ∨ Same H H' := z.imp_left fun z => (Bool.and_eq_true _ _ ▸ (show (m.stor && Γ.all Md.stor) = true from z)).1
    have z2 : Γ.all Md.stor = true ∨ Same H H' := z.imp_left fun z => (Bool.and_eq_true _ _ ▸ (show (m.stor && Γ.all Md.stor) = true from z)).2
    refine ⟨f1, f2, rfl, ?_, Slots.mono h3 e (fun a ha => n a (List.mem_append_right _ ha)) (fun a ha => k a (List.mem_append_right _ ha)) z2⟩
    cases r with
    | none => exact h2
    | some d =>
      obtain ⟨v, h4, h5⟩ := h2
      exact ⟨v, h4, h5.mono e (fun a ha => n a (List.mem_append_left _ ha)) (fun a ha => k a (List.mem_append_left _ ha)) z1⟩
theorem Exs.mono : ∀ {L : List Ent} {fp : List Addr}, Exs C F H L fp → Same F F' → (∀ a ∈ fp, F' a = none) → (∀ a ∈ fp, H' a = H a) → (L.all (fun e => e.1.stor) = true ∨ Same H H') → Exs C F' H' L fp
  | [], _, h, _, _, _, _ => h
  | (m, d, v) :: L, _, ⟨f1, f2, h1, h2, h3⟩, e, n, k, z => by
    subst h1
    have z1 : m.stor = true ∨ Same H H' := z.imp_left fun z => (Bool.and_eq_true _ _ ▸ (show (m.stor && L.all fun e => e.1.stor) = true from z)).1
    have z2 : (L.all fun e => e.1.stor) = true ∨ Same H H' := z.imp_left fun z => (Bool.and_eq_true _ _ ▸ (show (m.stor && L.all fun e => e.1.stor) = true from z)).2
    exact ⟨f1, f2, rfl, h2.mono e (fun a ha => n a (List.mem_append_left _ ha)) (fun a ha => k a (List.mem_append_left _ ha)) z1, Exs.mono h3 e (fun a ha => n a (List.mem_append_right _ ha)) (fun a ha => k a (List.mem_append_right _ ha)) z2⟩
/-- owned addresses are there, and neither frozen nor of before -/
theorem Alls.each {R : DV → V → List Addr → Prop} {P : Addr → Prop} : ∀ {ds : List DV} {vs : List V} {fp : List Addr}, Alls R ds vs fp → (∀ d v f, R d v f → ∀ a ∈ f, P a) → ∀ a ∈ fp, P a
  | [], _, _, h, _, a, ha => by rw [h.2] at ha; cases ha
  | d :: ds, _, _, ⟨v, r, f1, f2, h1, h2, h3, h4⟩, k, a, ha => by
    rw [h2] at ha
    rcases List.mem_append.mp ha with ha | ha
    · exact k d v f1 h3 a ha
    · exact Alls.each h4 k a ha
def Owned (C : Cxt) (F H : Hp) (a : Addr) : Prop := F a = none ∧ C.Bp a = none ∧ ∃ o, H a = some o ∧ Mut (some o)
theorem Node.mut {mg : Str → Option Value} {d : DV} {vs : List V} {o : HO} (h : Node mg d vs o) : Mut (some o) := by
  cases d with
  | lst ds => obtain rfl : o = .lst vs := h; trivial
  | dct ks ds => obtain ⟨rfl, _⟩ := h; trivial
  | obj c ns ds => obtain ⟨C, dx, _, rfl, _⟩ := h; trivial
  | _ => exact h.elim
theorem At.owned : ∀ {m : Md} {d : DV} {v : V} {fp : List Addr}, At C F H m d v fp → ∀ a ∈ fp, Owned C F H a := by
  intro m
  induction m with
  | fr => intro d v fp h a ha; rw [h.1] at ha; cases ha
  | bo => intro d v fp h a ha; rw [h.1] at ha; cases ha
  | sc => intro d v fp h a ha; rw [h.1] at ha; cases ha
  | pk m ih | po m ih | tu m ih =>
    intro d v fp h
    unfold At at h
    split at h
    · obtain ⟨a, vs, _, _, h3⟩ := h
      exact h3.each fun d v f x => ih x
    · intro a ha; rw [h.1] at ha; cases ha
  | own m ih | ob m ih =>
    intro d v fp h
    unfold At at h
    split at h
    · obtain ⟨a, vs, o, fc, h1, h2, h3, h4, h5, h6, h7⟩ := h
      intro b hb
      rw [h6] at hb
      rcases List.mem_cons.mp hb with hb | hb
      · rw [hb]; exact ⟨h2, h3, o, h4, h5.mut⟩
      · exact h7.each (fun d v f x => ih x) b hb
    · intro a ha; rw [h.1] at ha; cases ha
theorem Slots.owned : ∀ {Γ : List Md} {σ : L2.St} {ρ : EnvD} {fp : List Addr}, Slots C F H Γ σ ρ fp → ∀ a ∈ fp, Owned C F H a
  | [], [], [], _, h, a, ha => by rw [show _ = _ from h] at ha; cases ha
  | m :: Γ, s :: σ, r :: ρ, _, ⟨f1, f2, h1, h2, h3⟩, a, ha => by
    subst h1
    rcases List.mem_append.mp ha with ha | ha
    · cases r with
      | none => rw [show f1 = [] from h2] at ha; cases ha
      | some d => obtain ⟨v, _, h5⟩ := h2; exact h5.owned a ha
    · exact Slots.owned h3 a ha
theorem Exs.owned : ∀ {L : List Ent} {fp : List Addr}, Exs C F H L fp → ∀ a ∈ fp, Owned C F H a
  | [], _, h, a, ha => by rw [show _ = _ from h] at ha; cases ha
  | (m, d, v) :: L, _, ⟨f1, f2, h1, h2, h3⟩, a, ha => by
    subst h1
    rcases List.mem_append.mp ha with ha | ha
    · exact h2.owned a ha
    · exact Exs.owned h3 a ha

/-- new objects laid -/
theorem Rep.alloc (r : Rep C F H Γ σ ρ L) (s : Same H H') (nt : ∀ a o, H' a = some o → tupO o = true → H a = some o) : Rep C F H' Γ σ ρ L := by
  obtain ⟨f1, f2, nd, a, b⟩ := r.own
  have oa := a.owned
  have ob := b.owned
  refine ⟨r.fit.alloc s nt, r.io, f1, f2, nd, a.mono (Same.refl _) (fun x hx => (oa x hx).1) (fun x hx => ?_) (.inr s), b.mono (Same.refl _) (fun x hx => (ob x hx).1) (fun x hx => ?_) (.inr s)⟩
  · obtain ⟨_, _, o, e, _⟩ := oa x hx
    rw [e]; exact s _ _ e
  · obtain ⟨_, _, o, e, _⟩ := ob x hx
    rw [e]; exact s _ _ e
/-- an entry with nothing owned comes -/
theorem Rep.cons0 (r : Rep C F H Γ σ ρ L) (h : At C F H m d v []) : Rep C F H Γ σ ρ ((m, d, v) :: L) := by
  obtain ⟨f1, f2, nd, a, b⟩ := r.own
  exact ⟨r.fit, r.io, f1, f2, nd, a, [], f2, rfl, h, b⟩
/-- the first entry goes -/
theorem Rep.tail {e : Ent} (r : Rep C F H Γ σ ρ (e :: L)) : Rep C F H Γ σ ρ L := by
  obtain ⟨f1, f2, nd, a, g1, g2, h1, h2, h3⟩ := r.own
  subst h1
  refine ⟨r.fit, r.io, f1, g2, ?_, a, h3⟩
  exact nd.sublist (List.Sublist.append (List.Sublist.refl _) (List.sublist_append_right _ _))
theorem Rep.head (r : Rep C F H Γ σ ρ ((m, d, v) :: L)) : ∃ f, At C F H m d v f := by
  obtain ⟨f1, f2, nd, a, g1, g2, h1, h2, h3⟩ := r.own
  exact ⟨g1, h2⟩
theorem Rep.da (r : Rep C F H Γ σ ρ ((m, d, v) :: L)) (q : m.rd = true) : DA C.K C.mg H d v := by
  obtain ⟨f, h⟩ := r.head
  exact h.da r.fit.fh r.fit.bh q
theorem Rep.fr (r : Rep C F H Γ σ ρ ((.fr, d, v) :: L)) : DA C.K C.mg F d v := by
  obtain ⟨f, h⟩ := r.head
  exact h.2
theorem Rep.free (r : Rep C F H Γ σ ρ ((m, d, v) :: L)) (q : m.free = true) : At C F H m d v [] := by
  obtain ⟨f, h⟩ := r.head
  have e := h.free_nil q
  rw [e] at h
  exact h
/-- the first entry is owned from here on in another mode (or less) -/
theorem Rep.turn (r : Rep C F H Γ σ ρ ((m, d, v) :: L)) (h : ∀ f, At C F H m d v f → ∃ g, g.Sublist f ∧ At C F H m' d v g) : Rep C F H Γ σ ρ ((m', d, v) :: L) := by
  obtain ⟨f1, f2, nd, a, g1, g2, h1, h2, h3⟩ := r.own
  subst h1
  obtain ⟨g, s, h4⟩ := h _ h2
  exact ⟨r.fit, r.io, f1, g ++ g2, nd.sublist (List.Sublist.append (List.Sublist.refl _) (List.Sublist.append s (List.Sublist.refl _))), a, g, g2, rfl, h4, h3⟩
theorem Rep.peek (r : Rep C F H Γ σ ρ ((m, d, v) :: L)) : Rep C F H Γ σ ρ ((m.peek, d, v) :: L) := r.turn fun f h => ⟨[], List.nil_sublist _, h.peek⟩
theorem Rep.swap {a b : Ent} (r : Rep C F H Γ σ ρ (a :: b :: L)) : Rep C F H Γ σ ρ (b :: a :: L) := by
  obtain ⟨f1, f2, nd, s, g1, g2, h1, h2, g3, g4, h3, h4, h5⟩ := r.own
  subst h1
  subst h3
  refine ⟨r.fit, r.io, f1, g3 ++ (g1 ++ g4), ?_, s, g3, g1 ++ g4, rfl, h4, g1, g4, rfl, h2, h5⟩
  refine List.Perm.nodup (l := f1 ++ (g1 ++ (g3 ++ g4))) ?_ nd
  refine List.Perm.append (List.Perm.refl _) ?_
  rw [← List.append_assoc, ← List.append_assoc]
  exact List.Perm.append List.perm_append_comm (List.Perm.refl _)

/-! ### slots -/
theorem Slots.get : ∀ {Γ : List Md} {σ : L2.St} {ρ : EnvD} {fp : List Addr} {i : Nat} {m : Md} {d : DV}, Slots C F H Γ σ ρ fp → Γ[i]? = some m → ρ[i]? = some (some d) → ∃ v f, σ[i]? = some (some v) ∧ At C F H m d v f
  | [], [], [], _, i, _, _, _, h, _ => by simp at h
  | m :: Γ, s :: σ, r :: ρ, _, 0, m', d, ⟨f1, f2, h1, h2, h3⟩, e1, e2 => by
    simp at e1 e2
    subst e1
    subst e2
    obtain ⟨v, h4, h5⟩ := h2
    exact ⟨v, f1, by rw [h4]; rfl, h5⟩
  | m :: Γ, s :: σ, r :: ρ, _, i + 1, m', d, ⟨f1, f2, h1, h2, h3⟩, e1, e2 => by
    obtain ⟨v, f, h4, h5⟩ := Slots.get h3 (i := i) (by simpa using e1) (by simpa using e2)
    exact ⟨v, f, by simpa using h4, h5⟩
theorem Rep.get {i : Nat} (r : Rep C F H Γ σ ρ L) (e1 : Γ[i]? = some m) (e2 : ρ[i]? = some (some d)) : ∃ v f, σ[i]? = some (some v) ∧ At C F H m d v f := by
  obtain ⟨f1, f2, nd, a, b⟩ := r.own
  exact a.get e1 e2
/-- the slot i gets the entry, its old one is dropped -/
theorem Slots.put {m : Md} {d : DV} {v : V} {g : List Addr} (hg : At C F H m d v g) : ∀ {Γ : List Md} {σ : L2.St} {ρ : EnvD} {fp : List Addr} {i : Nat}, Slots C F H Γ σ ρ fp → i < Γ.length →
    ∃ x y z, fp = x ++ (y ++ z) ∧ Slots C F H (Γ.set i m) (σ.set i (some v)) (ρ.set i (some d)) (x ++ (g ++ z))
  | [], [], [], _, i, h, l => by simp at l
  | m1 :: Γ, s :: σ, r :: ρ, _, 0, ⟨f1, f2, h1, h2, h3⟩, _ => ⟨[], f1, f2, h1, g, f2, rfl, ⟨v, rfl, hg⟩, h3⟩
  | m1 :: Γ, s :: σ, r :: ρ, _, i + 1, ⟨f1, f2, h1, h2, h3⟩, l => by
    obtain ⟨x, y, z, h4, h5⟩ := Slots.put hg (i := i) h3 (by simpa using l)
    exact ⟨f1 ++ x, y, z, by rw [h1, h4, List.append_assoc], f1, x ++ (g ++ z), by rw [List.append_assoc], h2, h5⟩
theorem Slots.len : ∀ {Γ : List Md} {σ : L2.St} {ρ : EnvD} {fp : List Addr}, Slots C F H Γ σ ρ fp → σ.length = Γ.length ∧ ρ.length = Γ.length
  | [], [], [], _, _ => ⟨rfl, rfl⟩
  | m :: Γ, s :: σ, r :: ρ, _, ⟨f1, f2, h1, h2, h3⟩ => by
    obtain ⟨a, b⟩ := Slots.len h3
    exact ⟨by rw [List.length_cons, List.length_cons, a], by rw [List.length_cons, List.length_cons, b]⟩
theorem perm3 {α : Type} (a b c d e : List α) : List.Perm ((a ++ (b ++ c)) ++ (d ++ e)) (b ++ ((a ++ (d ++ c)) ++ e)) := by
  have h1 : List.Perm (a ++ (b ++ c)) (b ++ (a ++ c)) := by
    rw [← List.append_assoc, ← List.append_assoc]
    exact List.Perm.append List.perm_append_comm (List.Perm.refl _)
  have h2 : List.Perm ((a ++ c) ++ d) (a ++ (d ++ c)) := by
    rw [List.append_assoc]
    exact List.Perm.append (List.Perm.refl _) List.perm_append_comm
  have h3 := List.Perm.append h1 (List.Perm.refl (d ++ e))
  refine h3.trans ?_
  rw [List.append_assoc b]
  refine List.Perm.append (List.Perm.refl _) ?_
  rw [← List.append_assoc]
  exact List.Perm.append h2 (List.Perm.refl _)
theorem Rep.put {i : Nat} (r : Rep C F H Γ σ ρ ((m, d, v) :: L)) (l : i < Γ.length) (hio : ∀ p ∈ C.io, p.1 ≠ i) : Rep C F H (Γ.set i m) (σ.set i (some v)) (ρ.set i (some d)) L := by
  obtain ⟨f1, f2, nd, a, g1, g2, h1, h2, h3⟩ := r.own
  subst h1
  obtain ⟨x, y, z, h4, h5⟩ := a.put h2 l
  subst h4
  refine ⟨r.fit, fun p hp => ?_, x ++ (g1 ++ z), g2, ?_, h5, h3⟩
  · rw [List.getElem?_set_ne (Ne.symm (hio p hp)), List.getElem?_set_ne (Ne.symm (hio p hp))]
    exact r.io p hp
  · exact (((perm3 x y z g1 g2).nodup nd)).sublist (List.sublist_append_right _ _)
/-- the slot is forgotten -/
theorem Slots.drop : ∀ {Γ : List Md} {σ : L2.St} {ρ : EnvD} {fp : List Addr} {i : Nat} (s : Option V), Slots C F H Γ σ ρ fp → ∃ x y z, fp = x ++ (y ++ z) ∧ Slots C F H Γ (σ.set i s) (ρ.set i none) (x ++ z)
  | [], [], [], _, i, s, h => ⟨[], [], [], h, rfl⟩
  | m1 :: Γ, s1 :: σ, r :: ρ, _, 0, s, ⟨f1, f2, h1, h2, h3⟩ => ⟨[], f1, f2, h1, [], f2, rfl, rfl, h3⟩
  | m1 :: Γ, s1 :: σ, r :: ρ, _, i + 1, s, ⟨f1, f2, h1, h2, h3⟩ => by
    obtain ⟨x, y, z, h4, h5⟩ := Slots.drop (i := i) s h3
    exact ⟨f1 ++ x, y, z, by rw [h1, h4, List.append_assoc], f1, x ++ z, by rw [List.append_assoc], h2, h5⟩

/-! ### freezing -/
def frz (fp : List Addr) (F H : Hp) : Hp := fun a => if a ∈ fp then H a else F a
theorem frz_same (n : ∀ a ∈ fp, F a = none) : Same F (frz fp F H) := fun a o e => by
  unfold frz
  split
  · rename_i h
    rw [n a h] at e
    cases e
  · exact e
theorem frz_le (s : Same F H) : Same (frz fp F H) H := fun a o e => by
  unfold frz at e
  split at e
  · exact e
  · exact s _ _ e
theorem frz_out {a : Addr} (h : a ∉ fp) : frz fp F H a = F a := by
  unfold frz
  rw [if_neg h]
/-- may it be frozen -/
@[reducible] def _root_.DL.Md.fz : Md → Bool
  | .fr => true
  | .own m => m.fz
  | .tu m => m.fz
  | .ob m => m.fz
  | _ => false
theorem At.frz : ∀ {m : Md} {d : DV} {v : V} {fp : List Addr}, m.fz = true → At C F H m d v fp → Same F F' → (∀ a ∈ fp, F' a = H a) → DA C.K C.mg F' d v := by
  intro m
  induction m with
  | fr => intro d v fp _ h e _; exact DA.mono e _ _ h.2
  | bo => intro d v fp q; cases q
  | sc => intro d v fp q; cases q
  | pk m ih | po m ih => intro d v fp q; cases q
  | tu m ih =>
    intro d v fp q h e k
    unfold At at h
    split at h
    · rename_i z
      cases d with
      | tup ds =>
        obtain ⟨a, vs, rfl, h2, h3⟩ := h
        exact ⟨a, vs, rfl, same_sqt e h2, h3.das fun d v f hf x => ih q x e fun a ha => k a (hf a ha)⟩
      | _ => cases z
    · exact DA.mono e _ _ h.2
  | own m ih | ob m ih =>
    intro d v fp q h e k
    unfold At at h
    split at h
    · obtain ⟨a, vs, o, fc, rfl, h2, h3, h4, h5, h6, h7⟩ := h
      subst h6
      exact (h5.rd ((k a List.mem_cons_self).trans h4)).da (h7.das fun d v f hf x => ih q x e fun a ha => k a (List.mem_cons_of_mem _ (hf a ha)))
    · exact DA.mono e _ _ h.2
theorem Rep.freeze (r : Rep C F H Γ σ ρ ((m, d, v) :: L)) (q : m.fz = true) : ∃ F', Same F F' ∧ Rep C F' H Γ σ ρ ((.fr, d, v) :: L) := by
  obtain ⟨f1, f2, nd, a, g1, g2, h1, h2, h3⟩ := r.own
  subst h1
  have o2 := h2.owned
  have s1 : Same F (DL.frz g1 F H) := frz_same fun a ha => (o2 a ha).1
  have nd2 := List.nodup_append.mp nd
  have nd3 := List.nodup_append.mp nd2.2.1
  have d1 : ∀ x ∈ f1, x ∉ g1 := fun x hx hy => nd2.2.2 x hx x (List.mem_append_left _ hy) rfl
  have d2 : ∀ x ∈ g2, x ∉ g1 := fun x hx hy => nd3.2.2 x hy x hx rfl
  refine ⟨DL.frz g1 F H, s1, ⟨r.fit.ff.trans s1, frz_le r.fit.fh, r.fit.bh, fun x hx => ?_, fun x o hx q => s1 _ _ (r.fit.tp x o hx q)⟩, r.io, f1, g2, ?_, ?_, [], g2, rfl, ⟨rfl, ?_⟩, ?_⟩
  · by_cases hm : x ∈ g1
    · exact .inr (.inl (o2 x hm).2.1)
    · rw [frz_out hm] at hx
      exact r.fit.f0 x hx
  · exact nd.sublist (List.Sublist.append (List.Sublist.refl _) (List.sublist_append_right _ _))
  · exact a.mono s1 (fun x hx => by rw [frz_out (d1 x hx)]; exact (a.owned x hx).1) (fun _ _ => rfl) (.inr (Same.refl _))
  · exact h2.frz q s1 fun x hx => by unfold DL.frz; rw [if_pos hx]
  · exact h3.mono s1 (fun x hx => by rw [frz_out (d2 x hx)]; exact (h3.owned x hx).1) (fun _ _ => rfl) (.inr (Same.refl _))

/-! ### a slot's entry taken out, laid back -/
theorem Slots.take : ∀ {Γ : List Md} {σ : L2.St} {ρ : EnvD} {fp : List Addr} {i : Nat} {m : Md} {d : DV}, Slots C F H Γ σ ρ fp → Γ[i]? = some m → ρ[i]? = some (some d) →
    ∃ v x y z, σ[i]? = some (some v) ∧ fp = x ++ (y ++ z) ∧ At C F H m d v y ∧ Slots C F H Γ σ (ρ.set i none) (x ++ z)
  | [], [], [], _, i, _, _, _, h, _ => by simp at h
  | m1 :: Γ, s :: σ, r :: ρ, _, 0, m', d, ⟨f1, f2, h1, h2, h3⟩, e1, e2 => by
    simp at e1 e2
    subst e1
    subst e2
    obtain ⟨v, h4, h5⟩ := h2
    exact ⟨v, [], f1, f2, by rw [h4]; rfl, h1, h5, [], f2, rfl, rfl, h3⟩
  | m1 :: Γ, s :: σ, r :: ρ, _, i + 1, m', d, ⟨f1, f2, h1, h2, h3⟩, e1, e2 => by
    obtain ⟨v, x, y, z, h4, h5, h6, h7⟩ := Slots.take h3 (i := i) (by simpa using e1) (by simpa using e2)
    exact ⟨v, f1 ++ x, y, z, by simpa using h4, by rw [h1, h5, List.append_assoc], h6, f1, x ++ z, by rw [List.append_assoc], h2, h7⟩
theorem Rep.take {i : Nat} (r : Rep C F H Γ σ ρ L) (e1 : Γ[i]? = some m) (e2 : ρ[i]? = some (some d)) : ∃ v, σ[i]? = some (some v) ∧ Rep C F H Γ σ (ρ.set i none) ((m, d, v) :: L) := by
  obtain ⟨f1, f2, nd, a, b⟩ := r.own
  obtain ⟨v, x, y, z, h1, h2, h3, h4⟩ := a.take e1 e2
  subst h2
  refine ⟨v, h1, r.fit, r.io, x ++ z, y ++ f2, ?_, h4, y, f2, rfl, h3, b⟩
  refine List.Perm.nodup (l := (x ++ (y ++ z)) ++ f2) ?_ nd
  rw [List.append_assoc, List.append_assoc, List.append_assoc]
  refine List.Perm.append (List.Perm.refl _) ?_
  rw [← List.append_assoc, ← List.append_assoc]
  exact List.Perm.append List.perm_append_comm (List.Perm.refl _)
theorem set_id {α : Type} : ∀ {l : List α} {i : Nat} {x : α}, l[i]? = some x → l.set i x = l
  | [], _, _, _ => rfl
  | a :: l, 0, x, h => by simp at h; rw [h]; rfl
  | a :: l, i + 1, x, h => by
    rw [List.set_cons_succ, set_id (by simpa using h)]
theorem Rep.back {i : Nat} (r : Rep C F H Γ σ ρ ((m, d, v) :: L)) (e : σ[i]? = some (some v)) (hio : Γ[i]? = some m ∨ ∀ p ∈ C.io, p.1 ≠ i) : Rep C F H (Γ.set i m) σ (ρ.set i (some d)) L := by
  obtain ⟨f1, f2, nd, a, g1, g2, h1, h2, h3⟩ := r.own
  subst h1
  have l : i < Γ.length := by
    rw [← a.len.1]
    exact (List.getElem?_eq_some_iff.mp e).1
  obtain ⟨x, y, z, h4, h5⟩ := a.put h2 l
  subst h4
  rw [set_id e] at h5
  have io : ∀ p ∈ C.io, σ[p.1]? = some (some p.2.1) ∧ (Γ.set i m)[p.1]? = some p.2.2 := fun p hp => by
    refine ⟨(r.io p hp).1, ?_⟩
    rcases hio with q | q
    · rw [set_id q]; exact (r.io p hp).2
    · rw [List.getElem?_set_ne (Ne.symm (q p hp))]; exact (r.io p hp).2
  exact ⟨r.fit, io, x ++ (g1 ++ z), g2, (((perm3 x y z g1 g2).nodup nd)).sublist (List.sublist_append_right _ _), h5, h3⟩
theorem set_set' {α : Type} : ∀ {l : List α} {i : Nat} {x y : α}, (l.set i x).set i y = l.set i y
  | [], _, _, _ => rfl
  | a :: l, 0, x, y => rfl
  | a :: l, i + 1, x, y => by
    show a :: ((l.set i x).set i y) = a :: l.set i y
    rw [set_set']
/-- the slot i is frozen, and its data come as an entry -/
theorem Rep.share {i : Nat} (r : Rep C F H Γ σ ρ L) (e1 : Γ[i]? = some m) (e2 : ρ[i]? = some (some d)) (q : m.fz = true) (hio : ∀ p ∈ C.io, p.1 ≠ i) : ∃ v F', σ[i]? = some (some v) ∧ Same F F' ∧ Rep C F' H (Γ.set i .fr) σ ρ ((.fr, d, v) :: L) := by
  obtain ⟨v, h1, r1⟩ := r.take e1 e2
  obtain ⟨F', s, r2⟩ := r1.freeze q
  have r3 : Rep C F' H Γ σ (ρ.set i none) ((.fr, d, v) :: (.fr, d, v) :: L) := r2.cons0 ⟨rfl, r2.fr⟩
  have r4 := r3.back (i := i) h1 (.inr hio)
  rw [set_set', set_id e2] at r4
  exact ⟨v, F', h1, s, r4⟩
/-- the slot's data, peeked -/
theorem Rep.look {i : Nat} (r : Rep C F H Γ σ ρ L) (e1 : Γ[i]? = some m) (e2 : ρ[i]? = some (some d)) : ∃ v, σ[i]? = some (some v) ∧ Rep C F H Γ σ ρ ((m.peek, d, v) :: L) := by
  obtain ⟨v, f, h1, h2⟩ := r.get e1 e2
  exact ⟨v, h1, r.cons0 h2.peek⟩
end

/-! ### what readings simulate -/
/-- the mirror of an expression -/
abbrev GE := EnvD → Rs DV
abbrev GT := EnvD → Rs Bool
abbrev GA := EnvD → Rs (List DV)
abbrev GX := EnvD → Rs (DV × EnvD)
abbrev GS := EnvD → Out
/-- what is wanted of an exception: class, value, heap -/
abbrev Wx := Str → DV → Hp → Prop
def PE' (C : Cxt) (W : Wx) (Γ : List Md) (F H : Hp) (σ : L2.St) (ρ : EnvD) (L : List Ent) (m : Md) (Q : VK) : Rs DV → Prop
  | .ok d => ∀ F' H' v, Same F F' → Same H H' → Rep C F' H' Γ σ ρ ((m, d, v) :: L) → Q v H'
  | .ex c d => ∀ F' H', Same F F' → Same H H' → Fit C F' H' → W c d H'
  | .stuck => False
def PT' (C : Cxt) (W : Wx) (Γ : List Md) (F H : Hp) (σ : L2.St) (ρ : EnvD) (L : List Ent) (Q : Bool → Hp → Prop) : Rs Bool → Prop
  | .ok b => ∀ F' H', Same F F' → Same H H' → Rep C F' H' Γ σ ρ L → Q b H'
  | .ex c d => ∀ F' H', Same F F' → Same H H' → Fit C F' H' → W c d H'
  | .stuck => False
/-- the entries of an argument list, the last one first -/
def entsA : List Md → List DV → List V → List Ent → List Ent
  | m :: ms, d :: ds, v :: vs, L => entsA ms ds vs ((m, d, v) :: L)
  | _, _, _, L => L
def PA' (C : Cxt) (W : Wx) (Γ : List Md) (F H : Hp) (σ : L2.St) (ρ : EnvD) (L : List Ent) (ms : List Md) (Q : List V → Hp → Prop) : Rs (List DV) → Prop
  | .ok ds => ∀ F' H' vs, Same F F' → Same H H' → ds.length = vs.length → ms.length = vs.length → Rep C F' H' Γ σ ρ (entsA ms ds vs L) → Q vs H'
  | .ex c d => ∀ F' H', Same F F' → Same H H' → Fit C F' H' → W c d H'
  | .stuck => False
/-- entries that may be pending -/
def okL (L : List Ent) : Prop := ∀ e ∈ L, e.1.stor = true ∨ e.1.free = true
theorem okL_nil : okL [] := fun _ h => by cases h
theorem okL_cons {e : Ent} {L : List Ent} (h1 : (e.1.stor || e.1.free) = true) (h2 : okL L) : okL (e :: L) := fun x hx => by
  rcases List.mem_cons.mp hx with rfl | hx
  · exact (Bool.or_eq_true _ _).mp h1
  · exact h2 x hx
/-- the reading t gives what g gives, in the mode m -/
def SE (C : Cxt) (W : Wx) (Γ : List Md) (t : TE) (g : GE) (m : Md) : Prop :=
  ∀ F H σ ρ L Q, okL L → Rep C F H Γ σ ρ L → PE' C W Γ F H σ ρ L m Q (g ρ) → t σ H Q
def ST (C : Cxt) (W : Wx) (Γ : List Md) (t : TT) (g : GT) : Prop :=
  ∀ F H σ ρ L Q, okL L → Rep C F H Γ σ ρ L → PT' C W Γ F H σ ρ L Q (g ρ) → t σ H Q
def SA (C : Cxt) (W : Wx) (Γ : List Md) (t : TA) (g : GA) (ms : List Md) : Prop :=
  ∀ F H σ ρ L Q, okL L → Rep C F H Γ σ ρ L → PA' C W Γ F H σ ρ L ms Q (g ρ) → t σ H Q
section
variable {C : Cxt} {W : Wx} {F F' H H' : Hp} {Γ : List Md} {σ : L2.St} {ρ : EnvD} {L : List Ent} {m : Md} {ms : List Md}
theorem PE'.mono {Q : VK} {r : Rs DV} (h : PE' C W Γ F H σ ρ L m Q r) (a : Same F F') (b : Same H H') : PE' C W Γ F' H' σ ρ L m Q r := by
  cases r with
  | ok d => exact fun F2 H2 v s1 s2 => h F2 H2 v (a.trans s1) (b.trans s2)
  | ex c d => exact fun F2 H2 s1 s2 => h F2 H2 (a.trans s1) (b.trans s2)
  | stuck => exact h
theorem PT'.mono {Q : Bool → Hp → Prop} {r : Rs Bool} (h : PT' C W Γ F H σ ρ L Q r) (a : Same F F') (b : Same H H') : PT' C W Γ F' H' σ ρ L Q r := by
  cases r with
  | ok d => exact fun F2 H2 s1 s2 => h F2 H2 (a.trans s1) (b.trans s2)
  | ex c d => exact fun F2 H2 s1 s2 => h F2 H2 (a.trans s1) (b.trans s2)
  | stuck => exact h
theorem PA'.mono {Q : List V → Hp → Prop} {r : Rs (List DV)} (h : PA' C W Γ F H σ ρ L ms Q r) (a : Same F F') (b : Same H H') : PA' C W Γ F' H' σ ρ L ms Q r := by
  cases r with
  | ok d => exact fun F2 H2 v s1 s2 => h F2 H2 v (a.trans s1) (b.trans s2)
  | ex c d => exact fun F2 H2 s1 s2 => h F2 H2 (a.trans s1) (b.trans s2)
  | stuck => exact h
variable {ta : TE} {ga : GE} {tt : TT} {gt : GT} {tl : TA} {gl : GA} {ma : Md}
/-- an expression first, then the rest (of an expression) -/
theorem se_then {f : DV → Rs DV} {L2 : List Ent} {Q : VK} {R : VK} (ha : SE C W Γ ta ga ma) (hL : okL L) (r : Rep C F H Γ σ ρ L) (h : PE' C W Γ F H σ ρ L2 m Q ((ga ρ).bind f))
    (k : ∀ d F1 H1 x, Same F F1 → Same H H1 → Rep C F1 H1 Γ σ ρ ((ma, d, x) :: L) → PE' C W Γ F1 H1 σ ρ L2 m Q (f d) → R x H1) : ta σ H R := by
  refine ha F H σ ρ L R hL r ?_
  revert h
  cases ga ρ with
  | ok d => exact fun h F1 H1 x s1 s2 r1 => k d F1 H1 x s1 s2 r1 (h.mono s1 s2)
  | ex c d => exact fun h => h
  | stuck => exact fun h => h
theorem se_thenT {f : DV → Rs Bool} {L2 : List Ent} {Q : Bool → Hp → Prop} {R : VK} (ha : SE C W Γ ta ga ma) (hL : okL L) (r : Rep C F H Γ σ ρ L) (h : PT' C W Γ F H σ ρ L2 Q ((ga ρ).bind f))
    (k : ∀ d F1 H1 x, Same F F1 → Same H H1 → Rep C F1 H1 Γ σ ρ ((ma, d, x) :: L) → PT' C W Γ F1 H1 σ ρ L2 Q (f d) → R x H1) : ta σ H R := by
  refine ha F H σ ρ L R hL r ?_
  revert h
  cases ga ρ with
  | ok d => exact fun h F1 H1 x s1 s2 r1 => k d F1 H1 x s1 s2 r1 (h.mono s1 s2)
  | ex c d => exact fun h => h
  | stuck => exact fun h => h
theorem se_thenA {f : DV → Rs (List DV)} {L2 : List Ent} {Q : List V → Hp → Prop} {R : VK} (ha : SE C W Γ ta ga ma) (hL : okL L) (r : Rep C F H Γ σ ρ L) (h : PA' C W Γ F H σ ρ L2 ms Q ((ga ρ).bind f))
    (k : ∀ d F1 H1 x, Same F F1 → Same H H1 → Rep C F1 H1 Γ σ ρ ((ma, d, x) :: L) → PA' C W Γ F1 H1 σ ρ L2 ms Q (f d) → R x H1) : ta σ H R := by
  refine ha F H σ ρ L R hL r ?_
  revert h
  cases ga ρ with
  | ok d => exact fun h F1 H1 x s1 s2 r1 => k d F1 H1 x s1 s2 r1 (h.mono s1 s2)
  | ex c d => exact fun h => h
  | stuck => exact fun h => h
theorem st_then {f : Bool → Rs DV} {L2 : List Ent} {Q : VK} {R : Bool → Hp → Prop} (ha : ST C W Γ tt gt) (hL : okL L) (r : Rep C F H Γ σ ρ L) (h : PE' C W Γ F H σ ρ L2 m Q ((gt ρ).bind f))
    (k : ∀ b F1 H1, Same F F1 → Same H H1 → Rep C F1 H1 Γ σ ρ L → PE' C W Γ F1 H1 σ ρ L2 m Q (f b) → R b H1) : tt σ H R := by
  refine ha F H σ ρ L R hL r ?_
  revert h
  cases gt ρ with
  | ok d => exact fun h F1 H1 s1 s2 r1 => k d F1 H1 s1 s2 r1 (h.mono s1 s2)
  | ex c d => exact fun h => h
  | stuck => exact fun h => h
theorem st_thenT {f : Bool → Rs Bool} {L2 : List Ent} {Q : Bool → Hp → Prop} {R : Bool → Hp → Prop} (ha : ST C W Γ tt gt) (hL : okL L) (r : Rep C F H Γ σ ρ L) (h : PT' C W Γ F H σ ρ L2 Q ((gt ρ).bind f))
    (k : ∀ b F1 H1, Same F F1 → Same H H1 → Rep C F1 H1 Γ σ ρ L → PT' C W Γ F1 H1 σ ρ L2 Q (f b) → R b H1) : tt σ H R := by
  refine ha F H σ ρ L R hL r ?_
  revert h
  cases gt ρ with
  | ok d => exact fun h F1 H1 s1 s2 r1 => k d F1 H1 s1 s2 r1 (h.mono s1 s2)
  | ex c d => exact fun h => h
  | stuck => exact fun h => h
theorem sa_then {f : List DV → Rs DV} {L2 : List Ent} {Q : VK} {R : List V → Hp → Prop} (ha : SA C W Γ tl gl ms) (hL : okL L) (r : Rep C F H Γ σ ρ L) (h : PE' C W Γ F H σ ρ L2 m Q ((gl ρ).bind f))
    (k : ∀ ds F1 H1 vs, Same F F1 → Same H H1 → ds.length = vs.length → ms.length = vs.length → Rep C F1 H1 Γ σ ρ (entsA ms ds vs L) → PE' C W Γ F1 H1 σ ρ L2 m Q (f ds) → R vs H1) : tl σ H R := by
  refine ha F H σ ρ L R hL r ?_
  revert h
  cases gl ρ with
  | ok d => exact fun h F1 H1 x s1 s2 e1 e2 r1 => k d F1 H1 x s1 s2 e1 e2 r1 (h.mono s1 s2)
  | ex c d => exact fun h => h
  | stuck => exact fun h => h
end
end DL
end

/-! text DL2 -/
section
set_option maxRecDepth 100000
set_option maxHeartbeats 4000000
/-! the data layer, part 2: expressions -/
namespace DL
open PySem PySem.Spec PyProof.Rows L2

/-! ### data -/
def flat : DV → Option V
  | .non => some .non
  | .bl b => some (.bl b)
  | .int i => some (.int i)
  | .str x => some (.str x)
  | _ => none
mutual
def imm : DV → Bool
  | .tup ds => imms ds
  | .lst _ => false
  | .dct _ _ => false
  | .obj _ _ _ => false
  | .non => true
  | .bl _ => true
  | .int _ => true
  | .str _ => true
def imms : List DV → Bool
  | [] => true
  | d :: ds => imm d && imms ds
end
section
variable {C : Cxt} {W : Wx} {F F' H H' : Hp} {Γ : List Md} {σ : L2.St} {ρ : EnvD} {L : List Ent} {m : Md} {d : DV} {v : V}
theorem flat_da {K : PySem.W.Frag} {mg : Str → Option Value} : ∀ {d : DV} {v : V}, flat d = some v → DA K mg F d v
  | .non, _, h => by cases h; rfl
  | .bl _, _, h => by cases h; rfl
  | .int _, _, h => by cases h; rfl
  | .str _, _, h => by cases h; rfl
  | .tup _, _, h => by cases h
  | .lst _, _, h => by cases h
  | .dct _ _, _, h => by cases h
  | .obj _ _ _, _, h => by cases h
theorem da_flat {K : PySem.W.Frag} {mg : Str → Option Value} : ∀ {d : DV} {v w : V}, flat d = some w → DA K mg F d v → v = w
  | .non, _, _, h, k => by cases h; exact k
  | .bl _, _, _, h, k => by cases h; exact k
  | .int _, _, _, h, k => by cases h; exact k
  | .str _, _, _, h, k => by cases h; exact k
  | .tup _, _, _, h, _ => by cases h
  | .lst _, _, _, h, _ => by cases h
  | .dct _ _, _, _, h, _ => by cases h
  | .obj _ _ _, _, _, h, _ => by cases h
theorem flat_on {m : Md} (h : flat d = some v) : isLD d = false ∧ isObj d = false ∧ isTup d = false := by
  cases d <;> first | exact ⟨rfl, rfl, rfl⟩ | cases h
theorem At.flat (q : m.rd = true) (h : flat d = some v) : At C F H m d v [] := by
  obtain ⟨h1, h2, h3⟩ := flat_on (m := m) h
  cases m with
  | sc => cases q
  | fr => exact ⟨rfl, flat_da h⟩
  | bo => exact ⟨rfl, flat_da h⟩
  | pk m => unfold At; rw [if_neg (by rw [h1]; exact Bool.false_ne_true)]; exact ⟨rfl, flat_da h⟩
  | own m => unfold At; rw [if_neg (by rw [h1]; exact Bool.false_ne_true)]; exact ⟨rfl, flat_da h⟩
  | tu m => unfold At; rw [if_neg (by rw [h3]; exact Bool.false_ne_true)]; exact ⟨rfl, flat_da h⟩
  | ob m => unfold At; rw [if_neg (by rw [h2]; exact Bool.false_ne_true)]; exact ⟨rfl, flat_da h⟩
  | po m => unfold At; rw [if_neg (by rw [h2]; exact Bool.false_ne_true)]; exact ⟨rfl, flat_da h⟩
theorem tupO_rd {K : PySem.W.Frag} {a : Addr} {vs : List V} (tp : ∀ a o, H a = some o → tupO o = true → F a = some o) (h : SqT K H a vs) : SqT K F a vs := by
  rcases h with (h | ⟨o, h⟩) | h
  · exact .inl (.inl (tp _ _ h rfl))
  · exact .inl (.inr ⟨o, tp _ _ h rfl⟩)
  · exact .inr h
mutual
theorem imm_da {K : PySem.W.Frag} {mg : Str → Option Value} (tp : ∀ a o, H a = some o → tupO o = true → F a = some o) : ∀ (d : DV) (v : V), imm d = true → DA K mg H d v → DA K mg F d v
  | .non, _, _, h => h
  | .bl _, _, _, h => h
  | .int _, _, _, h => h
  | .str _, _, _, h => h
  | .tup ds, _, q, ⟨a, vs, h1, h2, h3⟩ => ⟨a, vs, h1, tupO_rd tp h2, imms_da tp ds vs q h3⟩
  | .lst _, _, q, _ => by cases q
  | .dct _ _, _, q, _ => by cases q
  | .obj _ _ _, _, q, _ => by cases q
theorem imms_da {K : PySem.W.Frag} {mg : Str → Option Value} (tp : ∀ a o, H a = some o → tupO o = true → F a = some o) : ∀ (ds : List DV) (vs : List V), imms ds = true → DAs K mg H ds vs → DAs K mg F ds vs
  | [], _, _, h => h
  | d :: ds, _, q, ⟨v, r, h1, h2, h3⟩ => ⟨v, r, h1, imm_da tp d v ((Bool.and_eq_true _ _).mp q).1 h2, imms_da tp ds r ((Bool.and_eq_true _ _).mp q).2 h3⟩
end

/-! ### an answer -/
theorem PE'.give {Q : VK} (r : Rep C F H Γ σ ρ L) (h : PE' C W Γ F H σ ρ L m Q (.ok d)) (hv : At C F H m d v []) : Q v H := h F H v (Same.refl _) (Same.refl _) (r.cons0 hv)
theorem PE'.flat {Q : VK} (r : Rep C F H Γ σ ρ L) (h : PE' C W Γ F H σ ρ L m Q (.ok d)) (q : m.rd = true) (e : flat d = some v) : Q v H := h.give r (At.flat q e)
theorem PE'.ext {Q : VK} {e : Ent} {x : Rs DV} (h : PE' C W Γ F H σ ρ L m Q x) : PE' C W Γ F H σ ρ (e :: L) m Q x := by
  cases x with
  | ok d => exact fun F' H' v s1 s2 r => h F' H' v s1 s2 r.swap.tail
  | ex c d => exact h
  | stuck => exact h
theorem PT'.ext {Q : Bool → Hp → Prop} {e : Ent} {x : Rs Bool} (h : PT' C W Γ F H σ ρ L Q x) : PT' C W Γ F H σ ρ (e :: L) Q x := by
  cases x with
  | ok d => exact fun F' H' s1 s2 r => h F' H' s1 s2 r.tail
  | ex c d => exact h
  | stuck => exact h

/-! ### names, constants, coercions -/
def lk (ρ : EnvD) (i : Nat) : Rs DV := match ρ[i]? with
  | some (some d) => .ok d
  | _ => .stuck
def gVar (i : Nat) : GE := fun ρ => lk ρ i
def gC (d : DV) : GE := fun _ => .ok d
theorem lk_ok {i : Nat} (h : lk ρ i = .ok d) : ρ[i]? = some (some d) := by
  unfold lk at h
  split at h
  · rename_i e; cases h; exact e
  · cases h
theorem lk_cases (ρ : EnvD) (i : Nat) : (∃ d, ρ[i]? = some (some d) ∧ lk ρ i = .ok d) ∨ lk ρ i = .stuck := by
  unfold lk
  split
  · rename_i d e; exact .inl ⟨d, e, rfl⟩
  · exact .inr rfl
theorem se_var {i : Nat} (e : Γ[i]? = some m) : SE C W Γ (tVar i) (gVar i) m.peek := by
  intro F H σ ρ L Q hL r h
  unfold gVar at h
  rcases lk_cases ρ i with ⟨d, e2, e3⟩ | e3
  · rw [e3] at h
    obtain ⟨v, h1, r1⟩ := r.look e e2
    exact ⟨v, h1, h F H v (Same.refl _) (Same.refl _) r1⟩
  · rw [e3] at h
    exact h.elim
theorem se_const {t : V} (q : m.rd = true) (h : flat d = some t) : SE C W Γ (tC t) (gC d) m := fun F H σ ρ L Q hL r k => k.flat r q h
theorem se_int {i : Int} : SE C W Γ (tC (.int i)) (gC (.int i)) .fr := se_const rfl rfl
theorem se_bl {b : Bool} : SE C W Γ (tC (.bl b)) (gC (.bl b)) .fr := se_const rfl rfl
theorem se_non : SE C W Γ (tC .non) (gC .non) .fr := se_const rfl rfl
theorem se_str {x : Str} : SE C W Γ (tC (.str x)) (gC (.str x)) .fr := se_const rfl rfl
/-- a module's constant -/
theorem se_glob {t : V} (h : ∀ F, DA C.K C.mg F d t) : SE C W Γ (tC t) (gC d) .fr := fun F H σ ρ L Q hL r k => k.give r ⟨rfl, h F⟩
/-- frozen -/
theorem se_fr {t : TE} {g : GE} (h : SE C W Γ t g m) (q : m.fz = true) : SE C W Γ t g .fr := by
  intro F H σ ρ L Q hL r k
  refine h F H σ ρ L Q hL r ?_
  revert k
  cases g ρ with
  | ok d =>
    intro k F1 H1 v s1 s2 r1
    obtain ⟨F2, s3, r2⟩ := r1.freeze q
    exact k F2 H1 v (s1.trans s3) s2 r2
  | ex c d => exact fun k => k
  | stuck => exact fun k => k
def gImm (g : GE) : GE := fun ρ => (g ρ).bind fun d => if imm d = true then .ok d else .stuck
/-- what cannot change is frozen by itself -/
theorem se_imm {t : TE} {g : GE} (h : SE C W Γ t g m) (q : m.rd = true) : SE C W Γ t (gImm g) .fr := by
  intro F H σ ρ L Q hL r k
  refine se_then h hL r k fun d F1 H1 x s1 s2 r1 k1 => ?_
  split at k1
  · rename_i hi
    exact k1 F1 H1 x (Same.refl _) (Same.refl _) (r1.tail.cons0 ⟨rfl, imm_da r1.fit.tp _ _ hi (r1.da q)⟩)
  · exact k1.elim
/-- peeked -/
theorem se_pk {t : TE} {g : GE} (h : SE C W Γ t g m) : SE C W Γ t g m.peek := by
  intro F H σ ρ L Q hL r k
  refine h F H σ ρ L Q hL r ?_
  revert k
  cases g ρ with
  | ok d => exact fun k F1 H1 v s1 s2 r1 => k F1 H1 v s1 s2 r1.peek
  | ex c d => exact fun k => k
  | stuck => exact fun k => k

/-! ### operators -/
abbrev OpD := DV → DV → Rs DV
/-- an operator's reading gives what op gives -/
def OpS (C : Cxt) (W : Wx) (r : R2) (op : OpD) (ma mb m : Md) : Prop :=
  ∀ Γ F H σ ρ L x y dx dy Q, Rep C F H Γ σ ρ ((mb, dy, y) :: (ma, dx, x) :: L) → PE' C W Γ F H σ ρ L m Q (op dx dy) → r x y H Q
def gBin (op : OpD) (ga gb : GE) : GE := fun ρ => (ga ρ).bind fun x => (gb ρ).bind fun y => op x y
theorem se_op {r : R2} {op : OpD} {ta tb : TE} {ga gb : GE} {ma mb : Md} (ho : OpS C W r op ma mb m) (ha : SE C W Γ ta ga ma) (hb : SE C W Γ tb gb mb) (qo : (ma.stor || ma.free) = true := by rfl) : SE C W Γ (tOp r ta tb) (gBin op ga gb) m := by
  intro F H σ ρ L Q hL r0 k
  show ta σ H fun x H1 => tb σ H1 fun y H2 => r x y H2 Q
  refine se_then ha hL r0 k fun x F1 H1 vx s1 s2 r1 k1 => ?_
  refine se_then hb (okL_cons qo hL) r1 k1 fun y F2 H2 vy s3 s4 r2 k2 => ?_
  refine ho Γ F2 H2 σ ρ L vx vy x y Q r2 ?_
  exact k2
/-- one of two readings -/
def rOr (r1 r2 : R2) : R2 := fun x y H Q => r1 x y H Q ∨ r2 x y H Q
def opOr (f g : OpD) : OpD := fun x y => match f x y with
  | .stuck => g x y
  | r => r
theorem OpS.or {r1 r2 : R2} {f g : OpD} {ma mb : Md} (h1 : OpS C W r1 f ma mb m) (h2 : OpS C W r2 g ma mb m) : OpS C W (rOr r1 r2) (opOr f g) ma mb m := by
  intro Γ F H σ ρ L x y dx dy Q r k
  unfold opOr at k
  cases e : f dx dy with
  | ok d => rw [e] at k; exact .inl (h1 Γ F H σ ρ L x y dx dy Q r (by rw [e]; exact k))
  | ex c d => rw [e] at k; exact .inl (h1 Γ F H σ ρ L x y dx dy Q r (by rw [e]; exact k))
  | stuck => rw [e] at k; exact .inr (h2 Γ F H σ ρ L x y dx dy Q r k)
theorem OpR_or {X : Cx} {f : Value → Value → Sem Value} {r1 r2 : R2} (h1 : OpR X f r1) (h2 : OpR X f r2) : OpR X f (rOr r1 r2) := fun pins s σ H x y v u Q I a b h => h.elim (h1 pins s σ H x y v u Q I a b) (h2 pins s σ H x y v u Q I a b)
theorem IxR_or {X : Cx} {r1 r2 : R2} (h1 : IxR X r1) (h2 : IxR X r2) : IxR X (rOr r1 r2) := fun a b pins s σ H x y v u Q I c d h => h.elim (h1 a b pins s σ H x y v u Q I c d) (h2 a b pins s σ H x y v u Q I c d)

/-- ints -/
def dII (p : Int → Int → Bool) (g : Int → Int → DV) : OpD := fun x y => match x, y with
  | .int i, .int j => if p i j = true then .ok (g i j) else .stuck
  | _, _ => .stuck
theorem Rep.da2 {x y : V} {dx dy : DV} {ma mb : Md} (r : Rep C F H Γ σ ρ ((mb, dy, y) :: (ma, dx, x) :: L)) (qa : ma.rd = true) (qb : mb.rd = true) : DA C.K C.mg H dx x ∧ DA C.K C.mg H dy y := ⟨r.tail.da qa, r.da qb⟩
theorem ops_ii {P : Int → Int → Prop} {p : Int → Int → Bool} {g : Int → Int → V} {gd : Int → Int → DV} {ma mb : Md} (qa : ma.rd = true) (qb : mb.rd = true) (q : m.rd = true) (hp : ∀ i j, p i j = true → P i j) (hg : ∀ i j, flat (gd i j) = some (g i j)) :
    OpS C W (rI P g) (dII p gd) ma mb m := by
  intro Γ F H σ ρ L x y dx dy Q r k
  obtain ⟨h1, h2⟩ := r.da2 qa qb
  unfold dII at k
  split at k
  · rename_i i j
    split at k
    · rename_i hq
      exact ⟨i, j, h1, h2, hp i j hq, k.flat r.tail.tail q (hg i j)⟩
    · exact k.elim
  · exact k.elim
theorem ops_ii0 {g : Int → Int → V} {gd : Int → Int → DV} {ma mb : Md} (qa : ma.rd = true) (qb : mb.rd = true) (q : m.rd = true) (hg : ∀ i j, flat (gd i j) = some (g i j)) :
    OpS C W (rI0 g) (dII (fun _ _ => true) gd) ma mb m := by
  intro Γ F H σ ρ L x y dx dy Q r k
  obtain ⟨h1, h2⟩ := r.da2 qa qb
  unfold dII at k
  split at k
  · rename_i i j
    rw [if_pos rfl] at k
    exact ⟨i, j, h1, h2, k.flat r.tail.tail q (hg i j)⟩
  · exact k.elim
end
end DL
end

/-! text DL3 -/
section
set_option maxRecDepth 100000
set_option maxHeartbeats 4000000
/-! the data layer, part 3: operators -/
namespace DL
open PySem PySem.Spec PyProof.Rows L2

/-- a mode that what is frozen has, too -/
@[reducible] def Md.fo : Md → Bool
  | .fr => true
  | .pk m => m.fo
  | .tu m => m.fo
  | .po m => m.fo
  | _ => false
/-- a mode whose parts may be read off -/
@[reducible] def Md.ixok : Md → Bool
  | .fr => true
  | .bo => true
  | .sc => true
  | .pk m => m.fo
  | .tu m => m.fo
  | .po m => m.fo
  | _ => false
section
variable {C : Cxt} {W : Wx} {F F' H H' : Hp} {Γ : List Md} {σ : L2.St} {ρ : EnvD} {L : List Ent} {m ma mb : Md} {d : DV} {v : V}
theorem At.of_fr (s : Same F H) : ∀ {m : Md} {d : DV} {v : V}, m.fo = true → DA C.K C.mg F d v → At C F H m d v [] := by
  intro m
  induction m with
  | fr => intro d v _ h; exact ⟨rfl, h⟩
  | bo => intro d v q; cases q
  | sc => intro d v q; cases q
  | own m _ => intro d v q; cases q
  | ob m _ => intro d v q; cases q
  | pk m ih =>
    intro d v q h
    unfold At
    split
    · cases d with
      | lst ds => obtain ⟨a, vs, h1, h2, h3⟩ := h; exact ⟨a, vs, h1, same_rd s h2, Alls.of_das h3 fun d v x => ih q x⟩
      | dct ks ds => obtain ⟨a, vs, h1, h2, h3⟩ := h; exact ⟨a, vs, h1, ⟨s _ _ h2.1, h2.2⟩, Alls.of_das h3 fun d v x => ih q x⟩
      | _ => rename_i z; cases z
    · exact ⟨rfl, h⟩
  | po m ih =>
    intro d v q h
    unfold At
    split
    · cases d with
      | obj c ns ds => obtain ⟨a, vs, h1, ⟨C1, dx, g, h2, h4⟩, h3⟩ := h; exact ⟨a, vs, h1, ⟨C1, dx, g, s _ _ h2, h4⟩, Alls.of_das h3 fun d v x => ih q x⟩
      | _ => rename_i z; cases z
    · exact ⟨rfl, h⟩
  | tu m ih =>
    intro d v q h
    unfold At
    split
    · cases d with
      | tup ds => obtain ⟨a, vs, h1, h2, h3⟩ := h; exact ⟨a, vs, h1, h2, Alls.of_das h3 fun d v x => ih q x⟩
      | _ => rename_i z; cases z
    · exact ⟨rfl, h⟩
theorem fo_rd : ∀ m : Md, m.fo = true → m.rd = true
  | .fr, _ => rfl
  | .pk m, h => fo_rd m h
  | .tu m, h => fo_rd m h
  | .po m, h => fo_rd m h
theorem Rep.daX (r : Rep C F H Γ σ ρ ((m, d, v) :: L)) (q : m.ixok = true) (hd : ∀ ds, d ≠ .lst ds) : DA C.K C.mg H d v := by
  cases m with
  | fr => exact r.da rfl
  | bo => exact r.da rfl
  | sc => obtain ⟨f, h⟩ := r.head; obtain ⟨_, a, ns, _, h2, _⟩ := h; exact absurd h2 (hd _)
  | pk m => exact r.da (fo_rd m q)
  | tu m => exact r.da (fo_rd m q)
  | po m => exact r.da (fo_rd m q)
  | own m => cases q
  | ob m => cases q
theorem DAs.at (h : DAs C.K C.mg F ds vs) (k : ∀ d v, DA C.K C.mg F d v → At C F H m d v []) : Alls (At C F H m) ds vs [] := Alls.of_das h k
/-- the items of a list -/
theorem Rep.items {ds : List DV} (r : Rep C F H Γ σ ρ ((ma, .lst ds, v) :: L)) (q : ma.ixok = true) : ∃ a vs, v = .ref a ∧ (SqL C.K H a vs ∧ (ma.rd = true → Rd H a (.lst vs))) ∧ Alls (At C F H ma.kid) ds vs [] := by
  obtain ⟨f, h⟩ := r.head
  have s := r.fit.fh
  cases ma with
  | fr =>
    obtain ⟨_, a, vs, h1, h2, h3⟩ := h
    exact ⟨a, vs, h1, ⟨.inl (same_rd s h2), fun _ => same_rd s h2⟩, Alls.of_das h3 fun d v x => ⟨rfl, x⟩⟩
  | bo =>
    obtain ⟨_, a, vs, h1, h2, h3⟩ := h
    exact ⟨a, vs, h1, ⟨.inl (same_rd r.fit.bh h2), fun _ => same_rd r.fit.bh h2⟩, Alls.of_das h3 fun d v x => ⟨rfl, x⟩⟩
  | sc =>
    obtain ⟨_, a, ns, h1, h2, h3⟩ := h
    cases h2
    refine ⟨a, _, h1, ⟨s.seq h3, fun q => by cases q⟩, ?_⟩
    clear h1 h3 r
    induction ns with
    | nil => exact ⟨rfl, rfl⟩
    | cons n ns ih => exact ⟨.int n, _, [], [], rfl, rfl, ⟨rfl, rfl⟩, ih⟩
  | pk m =>
    unfold At at h
    rw [if_pos (show isLD (DV.lst ds) = true from rfl)] at h
    obtain ⟨a, vs, h1, h2, h3⟩ := h
    exact ⟨a, vs, h1, ⟨.inl h2, fun _ => h2⟩, h3.pt fun d v f x => by
      have e := x.free_nil (by
        clear r h1 h2 h3 x
        induction m with
        | fr => rfl
        | pk m ih => exact ih q
        | po m ih => exact ih q
        | tu m ih => exact ih q
        | _ => cases q)
      rw [e] at x
      exact x⟩
  | tu m =>
    unfold At at h
    rw [if_neg (by exact Bool.false_ne_true)] at h
    obtain ⟨_, a, vs, h1, h2, h3⟩ := h
    exact ⟨a, vs, h1, ⟨.inl (same_rd s h2), fun _ => same_rd s h2⟩, Alls.of_das h3 fun d v x => At.of_fr s q x⟩
  | po m =>
    unfold At at h
    rw [if_neg (by exact Bool.false_ne_true)] at h
    obtain ⟨_, a, vs, h1, h2, h3⟩ := h
    exact ⟨a, vs, h1, ⟨.inl (same_rd s h2), fun _ => same_rd s h2⟩, Alls.of_das h3 fun d v x => At.of_fr s q x⟩
  | own m => cases q
  | ob m => cases q
theorem Rep.parts {ds : List DV} (r : Rep C F H Γ σ ρ ((ma, .tup ds, v) :: L)) (q : ma.ixok = true) : ∃ a vs, v = .ref a ∧ SqT C.K H a vs ∧ Alls (At C F H ma.kid) ds vs [] := by
  obtain ⟨f, h⟩ := r.head
  have s := r.fit.fh
  cases ma with
  | fr =>
    obtain ⟨_, a, vs, h1, h2, h3⟩ := h
    exact ⟨a, vs, h1, same_sqt s h2, Alls.of_das h3 fun d v x => ⟨rfl, x⟩⟩
  | bo =>
    obtain ⟨_, a, vs, h1, h2, h3⟩ := h
    exact ⟨a, vs, h1, same_sqt r.fit.bh h2, Alls.of_das h3 fun d v x => ⟨rfl, x⟩⟩
  | sc =>
    obtain ⟨_, a, ns, h1, h2, h3⟩ := h
    cases h2
  | tu m =>
    unfold At at h
    rw [if_pos (show isTup (DV.tup ds) = true from rfl)] at h
    obtain ⟨a, vs, h1, h2, h3⟩ := h
    exact ⟨a, vs, h1, same_sqt s h2, h3.pt fun d v f x => by
      have e := x.free_nil (by
        clear r h1 h2 h3 x
        induction m with
        | fr => rfl
        | pk m ih => exact ih q
        | po m ih => exact ih q
        | tu m ih => exact ih q
        | _ => cases q)
      rw [e] at x
      exact x⟩
  | pk m =>
    unfold At at h
    rw [if_neg (by exact Bool.false_ne_true)] at h
    obtain ⟨_, a, vs, h1, h2, h3⟩ := h
    exact ⟨a, vs, h1, same_sqt s h2, Alls.of_das h3 fun d v x => At.of_fr s q x⟩
  | po m =>
    unfold At at h
    rw [if_neg (by exact Bool.false_ne_true)] at h
    obtain ⟨_, a, vs, h1, h2, h3⟩ := h
    exact ⟨a, vs, h1, same_sqt s h2, Alls.of_das h3 fun d v x => At.of_fr s q x⟩
  | own m => cases q
  | ob m => cases q
theorem Alls.nil_get {R : DV → V → List Addr → Prop} {ds : List DV} {vs : List V} {i : Nat} (h : Alls R ds vs []) (e : ds[i]? = some d) : ∃ v, vs[i]? = some v ∧ R d v [] := by
  obtain ⟨v, f, h1, h2, h3⟩ := h.get e
  have e : f = [] := by
    cases f with
    | nil => rfl
    | cons a f => exact absurd (h3 a List.mem_cons_self) (List.not_mem_nil)
  rw [e] at h2
  exact ⟨v, h1, h2⟩
theorem Alls.atI {R : DV → V → List Addr → Prop} {ds : List DV} {vs : List V} {i : Int} (h : Alls R ds vs []) (e : L2.atI ds i = some d) : ∃ v, L2.atI vs i = some v ∧ R d v [] := by
  unfold L2.atI at e ⊢
  rw [← h.length]
  cases q : ixN ds.length i with
  | none => rw [q] at e; cases e
  | some j =>
    rw [q] at e
    exact h.nil_get (i := j) e

/-! ### subscripts -/
def ofO (o : Option DV) : Rs DV := match o with
  | some d => .ok d
  | none => .stuck
def dIx : OpD := fun x y => match x, y with
  | .lst ds, .int i => ofO (L2.atI ds i)
  | .tup ds, .int i => ofO (L2.atI ds i)
  | _, _ => .stuck
abbrev rIxX (K : PySem.W.Frag) : R2 := rOr (rIxL K) (rIxT K)
theorem ix_X {X : Cx} : IxR X (rIxX X.K) := IxR_or ix_list ix_tup
theorem os_ix (q : ma.ixok = true := by rfl) (qb : mb.rd = true := by rfl) : OpS C W (rIxX C.K) dIx ma mb ma.kid := by
  intro Γ F H σ ρ L x y dx dy Q r k
  unfold dIx at k
  have hy := r.da qb
  split at k
  · rename_i ds i
    obtain ⟨a, vs, h1, h2, h3⟩ := r.tail.items q
    cases e : L2.atI ds i with
    | none => rw [e] at k; exact k.elim
    | some d =>
      rw [e] at k
      obtain ⟨w, e1, e2⟩ := h3.atI e
      exact .inl ⟨a, vs, i, w, h1, hy, h2.1, e1, k.give r.tail.tail e2⟩
  · rename_i ds i
    obtain ⟨a, vs, h1, h2, h3⟩ := r.tail.parts q
    cases e : L2.atI ds i with
    | none => rw [e] at k; exact k.elim
    | some d =>
      rw [e] at k
      obtain ⟨w, e1, e2⟩ := h3.atI e
      exact .inr ⟨a, vs, i, w, h1, hy, h2, e1, k.give r.tail.tail e2⟩
  · exact k.elim

/-! ### new lists -/
theorem upd_nt {p : Addr} {o : HO} (np : H p = none) (ho : tupO o = false) : ∀ a u, upd H p o a = some u → tupO u = true → H a = some u := fun a u e q => by
  by_cases h : a = p
  · subst h
    rw [upd_same] at e
    cases e
    rw [ho] at q
    cases q
  · rw [upd_ne h] at e
    exact e
/-- objects laid, of which one is the root of a new entry -/
theorem Rep.new {fp : List Addr} (r : Rep C F H Γ σ ρ L) (s : Same H H') (nt : ∀ a o, H' a = some o → tupO o = true → H a = some o) (h : At C F H' m d v fp) (nd : fp.Nodup) (fr : ∀ a ∈ fp, H a = none) : Rep C F H' Γ σ ρ ((m, d, v) :: L) := by
  obtain ⟨f1, f2, nd2, a, b⟩ := r.own
  have oa := a.owned
  have ob := b.owned
  refine ⟨r.fit.alloc s nt, r.io, f1, fp ++ f2, ?_, a.mono (Same.refl _) (fun x hx => (oa x hx).1) (fun x hx => ?_) (.inr s), fp, f2, rfl, h, b.mono (Same.refl _) (fun x hx => (ob x hx).1) (fun x hx => ?_) (.inr s)⟩
  · have hf : ∀ x ∈ f1 ++ f2, x ∉ fp := fun x hx hy => by
      have hn := fr x hy
      rcases List.mem_append.mp hx with z | z
      · obtain ⟨_, _, o, e, _⟩ := oa x z; rw [hn] at e; cases e
      · obtain ⟨_, _, o, e, _⟩ := ob x z; rw [hn] at e; cases e
    refine List.Perm.nodup (l := fp ++ (f1 ++ f2)) ?_ ?_
    · rw [← List.append_assoc, ← List.append_assoc]
      exact List.Perm.append List.perm_append_comm (List.Perm.refl _)
    · exact List.nodup_append.mpr ⟨nd, nd2, fun x hx y hy e => hf y hy (e ▸ hx)⟩
  · obtain ⟨_, _, o, e, _⟩ := oa x hx
    rw [e]; exact s _ _ e
  · obtain ⟨_, _, o, e, _⟩ := ob x hx
    rw [e]; exact s _ _ e
theorem Exs.gather : ∀ {ms : List Md} {ds : List DV} {vs : List V} {L : List Ent} {f : List Addr}, Exs C F H (entsA ms ds vs L) f → (∀ x ∈ ms, x = m) → ms.length = vs.length → ds.length = vs.length →
    ∃ f1 f2, f.Perm (f1 ++ f2) ∧ Alls (At C F H m) ds vs f1 ∧ Exs C F H L f2
  | [], [], [], L, f, h, _, _, _ => ⟨[], f, List.Perm.refl _, ⟨rfl, rfl⟩, h⟩
  | [], d :: ds, [], L, f, h, _, _, e => by cases e
  | [], ds, v :: vs, L, f, h, _, e, _ => by cases e
  | a :: ms, ds, [], L, f, h, _, e, _ => by cases e
  | a :: ms, [], v :: vs, L, f, h, _, _, e => by cases e
  | a :: ms, d :: ds, v :: vs, L, f, h, q, e1, e2 => by
    obtain ⟨g1, g2, p, hA, h1, h2, e3, h3, h4⟩ := Exs.gather (ms := ms) (ds := ds) (vs := vs) h (fun x hx => q x (List.mem_cons_of_mem _ hx)) (by simpa using e1) (by simpa using e2)
    subst e3
    have ea : a = m := q a List.mem_cons_self
    subst ea
    refine ⟨h1 ++ g1, h2, p.trans ?_, ⟨v, vs, h1, g1, rfl, rfl, h3, hA⟩, h4⟩
    rw [← List.append_assoc]
    exact List.Perm.append List.perm_append_comm (List.Perm.refl _)
/-- a new node over the entries of an argument list -/
theorem Rep.node {ms : List Md} {ds : List DV} {vs : List V} {p : Addr} {o : HO} (r : Rep C F H Γ σ ρ (entsA ms ds vs L)) (q : ∀ x ∈ ms, x = m) (e1 : ms.length = vs.length) (e2 : ds.length = vs.length) (np : H p = none) (ho : tupO o = false) (hk : kids d = ds) (hd : isLD d = true) (hn : Node C.mg d vs o) :
    Rep C F (upd H p o) Γ σ ρ ((.own m, d, .ref p) :: L) := by
  obtain ⟨f1, f2, nd, a, b⟩ := r.own
  obtain ⟨g1, g2, pm, hA, hL⟩ := b.gather q e1 e2
  have oa := a.owned
  have ob := b.owned
  have s : Same H (upd H p o) := same_upd np
  have kp : ∀ x, Owned C F H x → upd H p o x = H x := fun x ⟨_, _, u, e, _⟩ => by rw [upd_ne (ne_of_none e np)]
  have ob1 : ∀ x ∈ g1, Owned C F H x := fun x hx => ob x (pm.mem_iff.mpr (List.mem_append_left _ hx))
  have ob2 : ∀ x ∈ g2, Owned C F H x := fun x hx => ob x (pm.mem_iff.mpr (List.mem_append_right _ hx))
  have hp : F p = none := Same.free r.fit.fh np
  have hb : C.Bp p = none := Same.free r.fit.bh np
  refine ⟨r.fit.alloc s (upd_nt np ho), r.io, f1, (p :: g1) ++ g2, ?_, a.mono (Same.refl _) (fun x hx => (oa x hx).1) (fun x hx => kp x (oa x hx)) (.inr s), p :: g1, g2, rfl, ?_, hL.mono (Same.refl _) (fun x hx => (ob2 x hx).1) (fun x hx => kp x (ob2 x hx)) (.inr s)⟩
  · refine List.Perm.nodup (l := p :: (f1 ++ f2)) ?_ ?_
    · refine (List.perm_middle (a := p) (l₁ := f1) (l₂ := f2)).symm.trans ?_
      exact List.Perm.append (List.Perm.refl _) (List.Perm.cons _ pm)
    · refine List.nodup_cons.mpr ⟨fun z => ?_, nd⟩
      rcases List.mem_append.mp z with z | z
      · obtain ⟨_, _, u, e, _⟩ := oa p z; rw [np] at e; cases e
      · obtain ⟨_, _, u, e, _⟩ := ob p z; rw [np] at e; cases e
  · unfold At
    rw [if_pos hd]
    refine ⟨p, vs, o, g1, rfl, hp, hb, upd_same, hn, rfl, ?_⟩
    rw [hk]
    exact hA.imp fun d v f hf x => x.mono (Same.refl _) (fun y hy => (ob1 y (hf y hy)).1) (fun y hy => kp y (ob1 y (hf y hy))) (.inr s)
def eLst (g : GA) : GE := fun ρ => (g ρ).bind fun ds => if ds.length ≤ sizeLine then .ok (.lst ds) else .stuck
theorem se_lst {t : TA} {g : GA} {ms : List Md} (h : SA C W Γ t g ms) (q : ∀ x ∈ ms, x = m) : SE C W Γ (tLst t) (eLst g) (.own m) := by
  intro F H σ ρ L Q hL r k
  show t σ H fun xs H1 => xs.length ≤ sizeLine ∧ ∀ p, H1 p = none → Q (.ref p) (upd H1 p (.lst xs))
  refine sa_then h hL r k fun ds F1 H1 vs s1 s2 e1 e2 r1 k1 => ?_
  split at k1
  · rename_i hz
    refine ⟨by rw [← e1]; exact hz, fun p np => ?_⟩
    exact k1 F1 _ _ (Same.refl _) (same_upd np) (r1.node q e2 e1 np rfl rfl rfl rfl)
  · exact k1.elim
/-- a new tuple over the entries of an argument list -/
theorem Rep.tuple {ms : List Md} {ds : List DV} {vs : List V} {p : Addr} (r : Rep C F H Γ σ ρ (entsA ms ds vs L)) (q : ∀ x ∈ ms, x = m) (e1 : ms.length = vs.length) (e2 : ds.length = vs.length) (np : H p = none) :
    Same F (upd F p (.tup vs)) ∧ Rep C (upd F p (.tup vs)) (upd H p (.tup vs)) Γ σ ρ ((.tu m, .tup ds, .ref p) :: L) := by
  obtain ⟨f1, f2, nd, a, b⟩ := r.own
  obtain ⟨g1, g2, pm, hA, hL⟩ := b.gather q e1 e2
  have oa := a.owned
  have ob := b.owned
  have s : Same H (upd H p (.tup vs)) := same_upd np
  have hp : F p = none := Same.free r.fit.fh np
  have hb : C.Bp p = none := Same.free r.fit.bh np
  have sf : Same F (upd F p (.tup vs)) := same_upd hp
  have kp : ∀ x, Owned C F H x → upd H p (.tup vs) x = H x := fun x ⟨_, _, u, e, _⟩ => by rw [upd_ne (ne_of_none e np)]
  have kf : ∀ x, Owned C F H x → upd F p (.tup vs) x = none := fun x ⟨h, _, u, e, _⟩ => by rw [upd_ne (ne_of_none e np)]; exact h
  have ob1 : ∀ x ∈ g1, Owned C F H x := fun x hx => ob x (pm.mem_iff.mpr (List.mem_append_left _ hx))
  have ob2 : ∀ x ∈ g2, Owned C F H x := fun x hx => ob x (pm.mem_iff.mpr (List.mem_append_right _ hx))
  refine ⟨sf, ⟨r.fit.ff.trans sf, fun x u e => ?_, r.fit.bh.trans s, fun x hx => ?_, fun x u e t => ?_⟩, r.io, f1, g1 ++ g2, ?_, a.mono sf (fun x hx => kf x (oa x hx)) (fun x hx => kp x (oa x hx)) (.inr s), g1, g2, rfl, ?_, hL.mono sf (fun x hx => kf x (ob2 x hx)) (fun x hx => kp x (ob2 x hx)) (.inr s)⟩
  · by_cases z : x = p
    · subst z; rw [upd_same] at e ⊢; exact e
    · rw [upd_ne z] at e ⊢; exact r.fit.fh _ _ e
  · by_cases z : x = p
    · subst z; exact .inr (.inl hb)
    · rw [upd_ne z] at hx; exact r.fit.f0 x hx
  · by_cases z : x = p
    · subst z; rw [upd_same] at e ⊢; exact e
    · rw [upd_ne z] at e ⊢; exact r.fit.tp x u e t
  · exact List.Perm.nodup (List.Perm.append (List.Perm.refl _) pm) nd
  · unfold At
    rw [if_pos (show isTup (DV.tup ds) = true from rfl)]
    refine ⟨p, vs, rfl, .inl (.inl upd_same), ?_⟩
    exact hA.imp fun d v f hf x => x.mono sf (fun y hy => kf y (ob1 y (hf y hy))) (fun y hy => kp y (ob1 y (hf y hy))) (.inr s)
def eTup (g : GA) : GE := fun ρ => (g ρ).bind fun ds => if ds.length ≤ sizeLine then .ok (.tup ds) else .stuck
theorem se_tupM {t : TA} {g : GA} {ms : List Md} (h : SA C W Γ t g ms) (q : ∀ x ∈ ms, x = m) : SE C W Γ (tTup t) (eTup g) (.tu m) := by
  intro F H σ ρ L Q hL r k
  show t σ H fun xs H1 => xs.length ≤ sizeLine ∧ ∀ p, H1 p = none → Q (.ref p) (upd H1 p (.tup xs))
  refine sa_then h hL r k fun ds F1 H1 vs s1 s2 e1 e2 r1 k1 => ?_
  split at k1
  · rename_i hz
    refine ⟨by rw [← e1]; exact hz, fun p np => ?_⟩
    obtain ⟨sf, r2⟩ := r1.tuple q e2 e1 np
    exact k1 _ _ _ sf (same_upd np) r2
  · exact k1.elim
theorem se_tup {t : TA} {g : GA} {ms : List Md} (h : SA C W Γ t g ms) (q : ∀ x ∈ ms, x = .fr) : SE C W Γ (tTup t) (eTup g) .fr := se_fr (se_tupM h q) rfl

/-! ### argument lists -/
def aNil : GA := fun _ => .ok []
def aCons (ga : GE) (gr : GA) : GA := fun ρ => (ga ρ).bind fun x => (gr ρ).bind fun xs => .ok (x :: xs)
theorem sa_nil : SA C W Γ tNil aNil [] := fun F H σ ρ L Q hL r k => k F H [] (Same.refl _) (Same.refl _) rfl rfl r
theorem sa_cons {ta : TE} {tr : TA} {ga : GE} {gr : GA} {ms : List Md} (ha : SE C W Γ ta ga m) (hr : SA C W Γ tr gr ms) (qo : (m.stor || m.free) = true := by rfl) : SA C W Γ (tCons ta tr) (aCons ga gr) (m :: ms) := by
  intro F H σ ρ L Q hL r k
  show ta σ H fun x H1 => tr σ H1 fun xs H2 => Q (x :: xs) H2
  refine se_thenA ha hL r k fun d F1 H1 x s1 s2 r1 k1 => ?_
  refine hr F1 H1 σ ρ _ _ (okL_cons qo hL) r1 ?_
  revert k1
  cases gr ρ with
  | ok ds => exact fun k1 F2 H2 vs s3 s4 e1 e2 r2 => k1 F2 H2 (x :: vs) s3 s4 (by rw [List.length_cons, List.length_cons, e1]) (by rw [List.length_cons, List.length_cons, e2]) r2
  | ex c d => exact fun k1 => k1
  | stuck => exact fun k1 => k1
end
end DL
end

/-! text DL4 -/
section
set_option maxRecDepth 100000
set_option maxHeartbeats 4000000
/-! the data layer, part 4: arithmetic, comparisons, tests, calls of built-ins, slices -/
namespace DL
open PySem PySem.Spec PyProof.Rows L2

section
variable {X : Cx} {pins : List (Addr × Obj)} {σ : L2.St} {H : Hp} {s : Shared}
theorem lstR {l : Addr} {xs : List V} (I : Inv X pins σ H s) (hH : Rd H l (.lst xs)) : xs.length ≤ sizeLine ∧ ∃ (its : List Value) (n : Nat), Vals xs its ∧ xs.length = its.length ∧ s.heap.get? l = some { cls := .type "list", data := .seq its.toArray n } := by
  obtain ⟨z, its, n, r, e⟩ := hH.ok I.hok
  exact ⟨z, its, n, r, r.length, e⟩
def rCatR : R2 := fun x y H Q => ∃ l b xs zs, x = .ref l ∧ y = .ref b ∧ Rd H l (.lst xs) ∧ Rd H b (.lst zs) ∧ xs.length + zs.length ≤ sizeLine ∧ ∀ p, H p = none → Q (.ref p) (upd H p (.lst (xs ++ zs)))
theorem op_catR : OpR X (binaryOp .Add) rCatR := by
  intro pins s σ H x y v u Q I rx ry h
  obtain ⟨l, b, xs, zs, rfl, rfl, hH, hB, hz, q⟩ := h
  cases rx
  cases ry
  obtain ⟨z, its, n, r, hl, e⟩ := lstR I hH
  obtain ⟨z2, its2, n2, r2, hl2, e2⟩ := lstR I hB
  refine PySem.P.add_list e e2 ?_ (by rw [List.size_toArray, List.size_toArray]; omega)
  have ea : its.toArray ++ its2.toArray = (its ++ its2).toArray := by simp
  rw [ea]
  exact ⟨.ref _, _, I.lnew (t' := s.toks) (r.append r2) (by rw [List.length_append]; omega), rfl, q _ I.fresh⟩
end

section
variable {C : Cxt} {W : Wx} {F F' H H' : Hp} {Γ : List Md} {σ : L2.St} {ρ : EnvD} {L : List Ent} {m ma mb : Md} {d : DV} {v : V}
theorem Rep.newl {ds : List DV} {vs : List V} {p : Addr} (r : Rep C F H Γ σ ρ L) (np : H p = none) (hA : Alls (At C F H m) ds vs []) : Rep C F (upd H p (.lst vs)) Γ σ ρ ((.own m, .lst ds, .ref p) :: L) := by
  have s : Same H (upd H p (.lst vs)) := same_upd np
  refine r.new s (upd_nt np rfl) (fp := [p]) ?_ (by simp) (fun a ha => by rw [List.mem_singleton.mp ha]; exact np)
  unfold At
  rw [if_pos (show isLD (.lst ds) = true from rfl)]
  exact ⟨p, vs, _, [], rfl, Same.free r.fit.fh np, Same.free r.fit.bh np, upd_same, rfl, rfl, hA.imp fun d v f hf x => x.mono (Same.refl _) (fun a ha => absurd (hf a ha) (List.not_mem_nil)) (fun a ha => absurd (hf a ha) (List.not_mem_nil)) (.inr s)⟩
theorem Alls.take {R : DV → V → List Addr → Prop} : ∀ {ds : List DV} {vs : List V} (n : Nat), Alls R ds vs [] → Alls R (ds.take n) (vs.take n) []
  | _, _, 0, _ => ⟨rfl, rfl⟩
  | [], _, n + 1, h => by rw [h.1]; exact ⟨rfl, rfl⟩
  | d :: ds, _, n + 1, ⟨v, r, f1, f2, h1, h2, h3, h4⟩ => by
    subst h1
    obtain ⟨e1, e2⟩ := List.append_eq_nil_iff.mp h2.symm
    subst e1
    subst e2
    exact ⟨v, _, [], [], rfl, rfl, h3, Alls.take n h4⟩
theorem Alls.drop {R : DV → V → List Addr → Prop} : ∀ {ds : List DV} {vs : List V} (n : Nat), Alls R ds vs [] → Alls R (ds.drop n) (vs.drop n) []
  | _, _, 0, h => h
  | [], _, n + 1, h => by rw [h.1]; exact ⟨rfl, rfl⟩
  | d :: ds, _, n + 1, ⟨v, r, f1, f2, h1, h2, h3, h4⟩ => by
    subst h1
    obtain ⟨e1, e2⟩ := List.append_eq_nil_iff.mp h2.symm
    subst e1
    subst e2
    exact Alls.drop n h4

/-! ### arithmetic -/
def dCat : OpD := fun x y => match x, y with
  | .lst xs, .lst ys => if xs.length + ys.length ≤ sizeLine then .ok (.lst (xs ++ ys)) else .stuck
  | _, _ => .stuck
def dCatT : OpD := fun x y => match x, y with
  | .tup xs, .tup ys => if xs.length + ys.length ≤ sizeLine then .ok (.tup (xs ++ ys)) else .stuck
  | _, _ => .stuck
def dCatS : OpD := fun x y => match x, y with
  | .str x, .str y => if x.length + y.length ≤ sizeLine then .ok (.str (x ++ y)) else .stuck
  | _, _ => .stuck
def tt2 : Int → Int → Bool := fun _ _ => true
def dAdd : OpD := opOr (dII tt2 fun i j => .int (i + j)) (opOr dCat dCatS)
abbrev rCatS : R2 := fun x y H Q => ∃ i j, x = .str i ∧ y = .str j ∧ i.length + j.length ≤ sizeLine ∧ Q (.str (i ++ j)) H
abbrev rAddX : R2 := rOr (rI0 fun i j => .int (i + j)) (rOr rCatR rCatS)
theorem op_addX {X : Cx} : OpR X (binaryOp .Add) rAddX := OpR_or op_add (OpR_or op_catR op_add_str)
theorem os_cat (qa : ma.ixok = true) (qb : mb.ixok = true) (ra : ma.rd = true) (rb : mb.rd = true) (ka : ma.kid = m) (kb : mb.kid = m) : OpS C W rCatR dCat ma mb (.own m) := by
  intro Γ F H σ ρ L x y dx dy Q r k
  unfold dCat at k
  split at k
  · rename_i xs ys
    obtain ⟨a, vs, h1, h2, h3⟩ := r.tail.items qa
    obtain ⟨b, ws, g1, g2, g3⟩ := r.items qb
    rw [ka] at h3
    rw [kb] at g3
    split at k
    · rename_i hz
      refine ⟨a, b, vs, ws, h1, g1, h2.2 ra, g2.2 rb, by rw [← h3.length, ← g3.length]; exact hz, fun p np => ?_⟩
      exact k F _ _ (Same.refl _) (same_upd np) (r.tail.tail.newl np (h3.append g3))
    · exact k.elim
  · exact k.elim
theorem os_catS (ra : ma.rd = true) (rb : mb.rd = true) (q : m.rd = true) : OpS C W rCatS dCatS ma mb m := by
  intro Γ F H σ ρ L x y dx dy Q r k
  obtain ⟨h1, h2⟩ := r.da2 ra rb
  unfold dCatS at k
  split at k
  · split at k
    · rename_i hz
      exact ⟨_, _, h1, h2, hz, k.flat r.tail.tail q rfl⟩
    · exact k.elim
  · exact k.elim
theorem os_add (qa : ma.ixok = true := by rfl) (qb : mb.ixok = true := by rfl) (ra : ma.rd = true := by rfl) (rb : mb.rd = true := by rfl) (ka : ma.kid = .fr := by rfl) (kb : mb.kid = .fr := by rfl) : OpS C W rAddX dAdd ma mb (.own .fr) :=
  (ops_ii0 ra rb rfl fun _ _ => rfl).or ((os_cat qa qb ra rb ka kb).or (os_catS ra rb rfl))
def dSub : OpD := dII tt2 fun i j => .int (i - j)
theorem os_sub (ra : ma.rd = true := by rfl) (rb : mb.rd = true := by rfl) : OpS C W (rI0 fun i j => .int (i - j)) dSub ma mb .fr := ops_ii0 ra rb rfl fun _ _ => rfl
def mulOk (i j : Int) : Bool := decide (i.natAbs < 2 ^ 64) || (decide (j.natAbs < 2 ^ 64) || decide (i.natAbs.log2 + j.natAbs.log2 < 1000000))
theorem bits64 {i : Int} (h : i.natAbs < 2 ^ 64) : Builtin.Int.intBits i ≤ 64 := by
  have z := PySem.Flt.log2_lt_of (by decide : 0 < 64) h
  unfold Builtin.Int.intBits
  split <;> omega
theorem mulOk_ok {i j : Int} (h : mulOk i j = true) : IntMulOk i j := by
  rcases (Bool.or_eq_true _ _).mp h with h | h
  · exact IntMulOk.of_left (bits64 (of_decide_eq_true h))
  · rcases (Bool.or_eq_true _ _).mp h with h | h
    · exact IntMulOk.of_right (bits64 (of_decide_eq_true h))
    · have h2 : i.natAbs.log2 + j.natAbs.log2 < 1000000 := of_decide_eq_true h
      exact CMulW.ok h2
theorem op_mulX {X : Cx} : OpR X (binaryOp .Mult) (rI IntMulOk fun i j => .int (i * j)) := opI fun _ _ _ _ _ _ _ hc q => mul_int q hc
def dMul : OpD := dII mulOk fun i j => .int (i * j)
theorem os_mul (ra : ma.rd = true := by rfl) (rb : mb.rd = true := by rfl) : OpS C W (rI IntMulOk fun i j => .int (i * j)) dMul ma mb .fr := ops_ii ra rb rfl (fun _ _ h => mulOk_ok h) fun _ _ => rfl
def divOk (_ j : Int) : Bool := decide (0 < j) && decide (j.natAbs.log2 < 9000)
def divOkN (_ j : Int) : Bool := decide (j ≠ 0) && decide (j.natAbs < 1073741824)
def dDiv : OpD := opOr (dII divOk fun i j => .int (i / j)) (dII divOkN fun i j => .int (i.fdiv j))
abbrev rDivX : R2 := rOr (rI CDivW fun i j => .int (i / j)) (rI CDivN fun i j => .int (i.fdiv j))
theorem op_divX {X : Cx} : OpR X (binaryOp .FloorDiv) rDivX := OpR_or op_fdivW op_fdivN
theorem os_div (ra : ma.rd = true := by rfl) (rb : mb.rd = true := by rfl) : OpS C W rDivX dDiv ma mb .fr :=
  (ops_ii ra rb rfl (fun _ _ h => ⟨of_decide_eq_true ((Bool.and_eq_true _ _).mp h).1, of_decide_eq_true ((Bool.and_eq_true _ _).mp h).2⟩) fun _ _ => rfl).or
    (ops_ii ra rb rfl (fun _ _ h => ⟨of_decide_eq_true ((Bool.and_eq_true _ _).mp h).1, of_decide_eq_true ((Bool.and_eq_true _ _).mp h).2⟩) fun _ _ => rfl)
def dMod : OpD := opOr (dII (fun _ j => decide (0 < j)) fun i j => .int (i % j)) (dII (fun _ j => decide (j ≠ 0)) fun i j => .int (i.fmod j))
abbrev rModX : R2 := rOr (rI (fun _ j => 0 < j) fun i j => .int (i % j)) (rI (fun _ j => j ≠ 0) fun i j => .int (i.fmod j))
theorem op_modX {X : Cx} : OpR X (binaryOp .Mod) rModX := OpR_or op_mod op_modN
theorem os_mod (ra : ma.rd = true := by rfl) (rb : mb.rd = true := by rfl) : OpS C W rModX dMod ma mb .fr :=
  (ops_ii ra rb rfl (fun _ _ h => of_decide_eq_true h) fun _ _ => rfl).or (ops_ii ra rb rfl (fun _ _ h => of_decide_eq_true h) fun _ _ => rfl)
def powOk (i j : Int) : Bool := decide (0 ≤ j) && (decide (j ≤ 1000000) && decide (i.natAbs < 2 ^ 64))
theorem powOk_ok {i j : Int} (h : powOk i j = true) : CPow i j := by
  have h1 := (Bool.and_eq_true _ _).mp h
  have h2 := (Bool.and_eq_true _ _).mp h1.2
  exact ⟨of_decide_eq_true h1.1, of_decide_eq_true h2.1, of_decide_eq_true h2.2⟩
def dPow : OpD := dII powOk fun i j => .int (i ^ j.toNat)
theorem os_pow (ra : ma.rd = true := by rfl) (rb : mb.rd = true := by rfl) : OpS C W (rI CPow fun i j => .int (i ^ j.toNat)) dPow ma mb .fr := ops_ii ra rb rfl (fun _ _ h => powOk_ok h) fun _ _ => rfl
def dShl : OpD := dII powOk fun i j => .int (i * 2 ^ j.toNat)
theorem os_shl (ra : ma.rd = true := by rfl) (rb : mb.rd = true := by rfl) : OpS C W (rI CPow fun i j => .int (i * 2 ^ j.toNat)) dShl ma mb .fr := ops_ii ra rb rfl (fun _ _ h => powOk_ok h) fun _ _ => rfl
def dShr : OpD := dII (fun _ j => decide (0 ≤ j)) fun i j => .int (i / 2 ^ j.toNat)
theorem os_shr (ra : ma.rd = true := by rfl) (rb : mb.rd = true := by rfl) : OpS C W (rI (fun _ j => 0 ≤ j) fun i j => .int (i / 2 ^ j.toNat)) dShr ma mb .fr := ops_ii ra rb rfl (fun _ _ h => of_decide_eq_true h) fun _ _ => rfl
def dAnd : OpD := dII tt2 fun i j => .int (Builtin.bitAnd i j)
theorem os_and (ra : ma.rd = true := by rfl) (rb : mb.rd = true := by rfl) : OpS C W (rI0 fun i j => .int (Builtin.bitAnd i j)) dAnd ma mb .fr := ops_ii0 ra rb rfl fun _ _ => rfl
def dOr : OpD := dII tt2 fun i j => .int (Builtin.bitOr i j)
theorem os_or (ra : ma.rd = true := by rfl) (rb : mb.rd = true := by rfl) : OpS C W (rI0 fun i j => .int (Builtin.bitOr i j)) dOr ma mb .fr := ops_ii0 ra rb rfl fun _ _ => rfl
def dXor : OpD := dII tt2 fun i j => .int (Builtin.bitXor i j)
theorem os_xor (ra : ma.rd = true := by rfl) (rb : mb.rd = true := by rfl) : OpS C W (rI0 fun i j => .int (Builtin.bitXor i j)) dXor ma mb .fr := ops_ii0 ra rb rfl fun _ _ => rfl
/-- [e] * n -/
def dRep : OpD := fun x y => match x, y with
  | .lst xs, .int k => if xs.length * k.toNat ≤ sizeLine ∧ -(2 ^ 63) ≤ k ∧ k < 2 ^ 63 then .ok (.lst (List.replicate k.toNat xs).flatten) else .stuck
  | _, _ => .stuck
theorem Alls.flat {R : DV → V → List Addr → Prop} {ds : List DV} {vs : List V} (h : Alls R ds vs []) : ∀ n : Nat, Alls R (List.replicate n ds).flatten (List.replicate n vs).flatten []
  | 0 => ⟨rfl, rfl⟩
  | n + 1 => by
    rw [List.replicate_succ, List.replicate_succ, List.flatten_cons, List.flatten_cons]
    exact h.append (Alls.flat h n)
theorem os_rep (rb : mb.rd = true := by rfl) : OpS C W rRep dRep (.own .fr) mb (.own .fr) := by
  intro Γ F H σ ρ L x y dx dy Q r k
  have hy := r.da rb
  obtain ⟨f, hx⟩ := r.tail.head
  unfold dRep at k
  split at k
  · rename_i xs j
    unfold At at hx
    rw [if_pos (show isLD (.lst xs) = true from rfl)] at hx
    obtain ⟨a, vs, o, fc, h1, h2, h3, h4, h5, h6, h7⟩ := hx
    obtain rfl : o = .lst vs := h5
    have h8 : Alls (At C F H .fr) xs vs [] := h7.pt fun d v f x => ⟨rfl, x.2⟩
    split at k
    · rename_i hz
      refine ⟨a, j, vs, h1, hy, h4, hz.2.1, hz.2.2, by rw [← h8.length]; exact hz.1, fun p np => ?_⟩
      exact k F _ _ (Same.refl _) (same_upd np) (r.tail.tail.newl np (h8.flat _))
    · exact k.elim
  · exact k.elim

/-! ### comparisons -/
def dLt : OpD := dII tt2 fun i j => .bl (decide (i < j))
def dLe : OpD := dII tt2 fun i j => .bl (decide (i ≤ j))
def dGt : OpD := dII tt2 fun i j => .bl (decide (j < i))
def dGe : OpD := dII tt2 fun i j => .bl (decide (j ≤ i))
theorem os_lt (ra : ma.rd = true := by rfl) (rb : mb.rd = true := by rfl) : OpS C W (rI0 fun i j => .bl (decide (i < j))) dLt ma mb .fr := ops_ii0 ra rb rfl fun _ _ => rfl
theorem os_le (ra : ma.rd = true := by rfl) (rb : mb.rd = true := by rfl) : OpS C W (rI0 fun i j => .bl (decide (i ≤ j))) dLe ma mb .fr := ops_ii0 ra rb rfl fun _ _ => rfl
theorem os_gt (ra : ma.rd = true := by rfl) (rb : mb.rd = true := by rfl) : OpS C W (rI0 fun i j => .bl (decide (j < i))) dGt ma mb .fr := ops_ii0 ra rb rfl fun _ _ => rfl
theorem os_ge (ra : ma.rd = true := by rfl) (rb : mb.rd = true := by rfl) : OpS C W (rI0 fun i j => .bl (decide (j ≤ i))) dGe ma mb .fr := ops_ii0 ra rb rfl fun _ _ => rfl
def isNonD : DV → Bool
  | .non => true
  | _ => false
def dIsN : OpD := fun x y => match y with
  | .non => .ok (.bl (isNonD x))
  | _ => .stuck
def dNotN : OpD := fun x y => match y with
  | .non => .ok (.bl (!isNonD x))
  | _ => .stuck
theorem da_non {K : PySem.W.Frag} {mg : Str → Option Value} {d : DV} {v : V} (h : DA K mg H d v) : decide (v = .non) = isNonD d := by
  cases d with
  | non => cases h; rfl
  | bl b => cases h; rfl
  | int i => cases h; rfl
  | str x => cases h; rfl
  | tup ds => obtain ⟨a, vs, rfl, _⟩ := h; rfl
  | lst ds => obtain ⟨a, vs, rfl, _⟩ := h; rfl
  | dct ks ds => obtain ⟨a, vs, rfl, _⟩ := h; rfl
  | obj c ns ds => obtain ⟨a, vs, rfl, _⟩ := h; rfl
abbrev rIsN : R2 := fun x y H Q => y = .non ∧ Q (.bl (decide (x = .non))) H
abbrev rNotN : R2 := fun x y H Q => y = .non ∧ Q (.bl (!decide (x = .non))) H
theorem os_isN (ra : ma.rd = true := by rfl) (rb : mb.rd = true := by rfl) : OpS C W rIsN dIsN ma mb .fr := by
  intro Γ F H σ ρ L x y dx dy Q r k
  obtain ⟨h1, h2⟩ := r.da2 ra rb
  unfold dIsN at k
  split at k
  · refine ⟨h2, ?_⟩
    rw [da_non h1]
    exact k.flat r.tail.tail rfl rfl
  · exact k.elim
theorem os_notN (ra : ma.rd = true := by rfl) (rb : mb.rd = true := by rfl) : OpS C W rNotN dNotN ma mb .fr := by
  intro Γ F H σ ρ L x y dx dy Q r k
  obtain ⟨h1, h2⟩ := r.da2 ra rb
  unfold dNotN at k
  split at k
  · refine ⟨h2, ?_⟩
    rw [da_non h1]
    exact k.flat r.tail.tail rfl rfl
  · exact k.elim
/-! equality -/
mutual
def py : DV → PyData
  | .non => .none
  | .bl b => .bool b
  | .int i => .int i
  | .str x => .str x
  | .tup ds => .tuple (pys ds)
  | .lst ds => .list (pys ds)
  | .dct _ _ => .none
  | .obj _ _ _ => .none
def pys : List DV → List PyData
  | [] => []
  | d :: ds => py d :: pys ds
end
mutual
def eqok : DV → Nat → Bool
  | .non, _ => true
  | .bl _, _ => true
  | .int _, _ => true
  | .str x, _ => PyData.strOk x
  | .tup ds, n => match n with
    | 0 => false
    | n + 1 => eqoks ds n
  | .lst ds, n => match n with
    | 0 => false
    | n + 1 => eqoks ds n
  | .dct _ _, _ => false
  | .obj _ _ _, _ => false
def eqoks : List DV → Nat → Bool
  | [], _ => true
  | d :: ds, n => eqok d n && eqoks ds n
end
mutual
theorem eqok_ok : ∀ (d : DV) (n : Nat), eqok d n = true → (py d).canLay0 = true ∧ (py d).depth ≤ n
  | .non, _, _ => ⟨rfl, Nat.zero_le _⟩
  | .bl _, _, _ => ⟨rfl, Nat.zero_le _⟩
  | .int _, _, _ => ⟨rfl, Nat.zero_le _⟩
  | .str _, _, h => ⟨h, Nat.zero_le _⟩
  | .tup ds, 0, h => by cases h
  | .tup ds, n + 1, h => by
    obtain ⟨h1, h2⟩ := eqoks_ok ds n h
    exact ⟨h1, Nat.succ_le_succ h2⟩
  | .lst ds, 0, h => by cases h
  | .lst ds, n + 1, h => by
    obtain ⟨h1, h2⟩ := eqoks_ok ds n h
    exact ⟨h1, Nat.succ_le_succ h2⟩
  | .dct _ _, _, h => by cases h
  | .obj _ _ _, _, h => by cases h
theorem eqoks_ok : ∀ (ds : List DV) (n : Nat), eqoks ds n = true → PyData.canLayAll0 (pys ds) = true ∧ PyData.depthAll (pys ds) ≤ n
  | [], _, _ => ⟨rfl, Nat.zero_le _⟩
  | d :: ds, n, h => by
    obtain ⟨h1, h2⟩ := (Bool.and_eq_true _ _).mp (show (eqok d n && eqoks ds n) = true from h)
    obtain ⟨a1, a2⟩ := eqok_ok d n h1
    obtain ⟨b1, b2⟩ := eqoks_ok ds n h2
    refine ⟨(Bool.and_eq_true _ _).mpr ⟨a1, b1⟩, Nat.max_le.mpr ⟨a2, b2⟩⟩
end
mutual
theorem da_dp {K : PySem.W.Frag} {mg : Str → Option Value} : ∀ (d : DV) (n : Nat) (v : V), eqok d n = true → DA K mg H d v → Dp K H v (py d)
  | .non, _, _, _, h => by cases h; exact .non
  | .bl _, _, _, _, h => by cases h; exact .bl _
  | .int _, _, _, _, h => by cases h; exact .int _
  | .str _, _, _, _, h => by cases h; exact .str _
  | .tup ds, 0, _, q, _ => by cases q
  | .tup ds, n + 1, _, q, h => by
    obtain ⟨a, vs, rfl, h2, h3⟩ := h
    exact .tup h2 (das_dp ds n vs q h3)
  | .lst ds, 0, _, q, _ => by cases q
  | .lst ds, n + 1, _, q, h => by
    obtain ⟨a, vs, rfl, h2, h3⟩ := h
    exact .lst (.inl h2) (das_dp ds n vs q h3)
  | .dct _ _, _, _, q, _ => by cases q
  | .obj _ _ _, _, _, q, _ => by cases q
theorem das_dp {K : PySem.W.Frag} {mg : Str → Option Value} : ∀ (ds : List DV) (n : Nat) (vs : List V), eqoks ds n = true → DAs K mg H ds vs → DpAll K H vs (pys ds)
  | [], _, _, _, h => by cases h; exact .nil
  | d :: ds, n, _, q, h => by
    obtain ⟨v, r, rfl, h2, h3⟩ := h
    obtain ⟨q1, q2⟩ := (Bool.and_eq_true _ _).mp (show (eqok d n && eqoks ds n) = true from q)
    exact .cons (da_dp d n v q1 h2) (das_dp ds n r q2 h3)
end
def eqv (x y : DV) : Bool := PyData.eqv (py x) (py y)
def dEq : OpD := fun x y => if (eqok x 20 && eqok y 20) = true then .ok (.bl (eqv x y)) else .stuck
def dNe : OpD := fun x y => if (eqok x 20 && eqok y 20) = true then .ok (.bl (!eqv x y)) else .stuck
theorem shaped_ok {d : DV} (h : eqok d 20 = true) : SeqAt.shaped (py d) = true := by
  obtain ⟨h1, h2⟩ := eqok_ok d 20 h
  unfold SeqAt.shaped
  rw [h1]
  exact decide_eq_true (Nat.le_trans h2 (by decide))
theorem os_eq (ra : ma.rd = true := by rfl) (rb : mb.rd = true := by rfl) : OpS C W (rEqD C.K) dEq ma mb .fr := by
  intro Γ F H σ ρ L x y dx dy Q r k
  obtain ⟨h1, h2⟩ := r.da2 ra rb
  unfold dEq at k
  split at k
  · rename_i q
    obtain ⟨q1, q2⟩ := (Bool.and_eq_true _ _).mp q
    exact ⟨py dx, py dy, da_dp dx 20 x q1 h1, da_dp dy 20 y q2 h2, shaped_ok q1, shaped_ok q2, k.flat r.tail.tail rfl rfl⟩
  · exact k.elim
theorem os_ne (ra : ma.rd = true := by rfl) (rb : mb.rd = true := by rfl) : OpS C W (rNeD C.K) dNe ma mb .fr := by
  intro Γ F H σ ρ L x y dx dy Q r k
  obtain ⟨h1, h2⟩ := r.da2 ra rb
  unfold dNe at k
  split at k
  · rename_i q
    obtain ⟨q1, q2⟩ := (Bool.and_eq_true _ _).mp q
    exact ⟨py dx, py dy, da_dp dx 20 x q1 h1, da_dp dy 20 y q2 h2, shaped_ok q1, shaped_ok q2, k.flat r.tail.tail rfl rfl⟩
  · exact k.elim
/-! membership -/
def flats : List DV → Option (List V)
  | [] => some []
  | d :: ds => match flat d, flats ds with
    | some v, some vs => some (v :: vs)
    | _, _ => none
theorem flats_ok {K : PySem.W.Frag} {mg : Str → Option Value} : ∀ {ds : List DV} {vs ws : List V}, flats ds = some ws → DAs K mg H ds vs → vs = ws
  | [], vs, ws, h, k => by cases h; exact k
  | d :: ds, vs, ws, h, ⟨v, r, e, h1, h2⟩ => by
    unfold flats at h
    split at h
    · rename_i w us a b
      cases h
      rw [e, da_flat a h1, flats_ok b h2]
    · cases h
theorem flat_flat {d : DV} {v : V} (h : flat d = some v) : flatV v = true := by
  cases d <;> first | cases h; rfl | cases h
theorem flats_flat : ∀ {ds : List DV} {ws : List V}, flats ds = some ws → ws.all flatV = true
  | [], ws, h => by cases h; rfl
  | d :: ds, ws, h => by
    unfold flats at h
    split at h
    · rename_i w us a b
      cases h
      rw [List.all_cons, flat_flat a, flats_flat b]
      rfl
    · cases h
def dInB (x y : DV) : Rs Bool := match y with
  | .lst ys => if (eqok x 20 && eqok (.lst ys) 20) = true then .ok (ys.any fun z => eqv z x) else .stuck
  | .tup ys => match flat x, flats ys with
    | some x, some ys => .ok (inV x ys)
    | _, _ => .stuck
  | _ => .stuck
def dIn : OpD := fun x y => (dInB x y).bind fun b => .ok (.bl b)
def dNotIn : OpD := fun x y => (dInB x y).bind fun b => .ok (.bl (!b))
abbrev rInX (K : PySem.W.Frag) : R2 := rOr (rInD K) (rIn K false)
abbrev rNotInX (K : PySem.W.Frag) : R2 := rOr (rNotInD K) (rIn K true)
theorem op_inX {X : Cx} (hu : X.A.units + 65 < cLine) : OpR X (compareOp .In) (rInX X.K) := OpR_or (op_inD hu) op_in_seq
theorem op_notInX {X : Cx} (hu : X.A.units + 65 < cLine) : OpR X (compareOp .NotIn) (rNotInX X.K) := OpR_or (op_notInD hu) op_notIn_seq
theorem pys_map : ∀ ds : List DV, pys ds = ds.map py
  | [] => rfl
  | d :: ds => by show py d :: pys ds = _; rw [pys_map ds]; rfl
theorem any_pys (ys : List DV) (x : DV) : (pys ys).any (fun z => PyData.eqv z (py x)) = ys.any fun z => eqv z x := by
  rw [pys_map, List.any_map]
  rfl
theorem os_in (ra : ma.rd = true := by rfl) (rb : mb.rd = true := by rfl) : OpS C W (rInX C.K) dIn ma mb .fr := by
  intro Γ F H σ ρ L x y dx dy Q r k
  obtain ⟨h1, h2⟩ := r.da2 ra rb
  unfold dIn dInB at k
  split at k
  · rename_i ys
    split at k
    · rename_i q
      obtain ⟨q1, q2⟩ := (Bool.and_eq_true _ _).mp q
      refine .inl ⟨py dx, pys ys, da_dp dx 20 x q1 h1, da_dp _ 20 y q2 h2, shaped_ok q1, shaped_ok q2, ?_⟩
      rw [any_pys]
      exact k.flat r.tail.tail rfl rfl
    · exact k.elim
  · rename_i ys
    split at k
    · rename_i x' ys' e1 e2
      obtain ⟨a, vs, g1, g2, g3⟩ := h2
      have e3 := flats_ok e2 g3
      have e4 := da_flat e1 h1
      subst e3
      subst e4
      exact .inr ⟨a, _, g1, .inr g2, flat_flat e1, flats_flat e2, k.flat r.tail.tail rfl rfl⟩
    · exact k.elim
  · exact k.elim
theorem os_notIn (ra : ma.rd = true := by rfl) (rb : mb.rd = true := by rfl) : OpS C W (rNotInX C.K) dNotIn ma mb .fr := by
  intro Γ F H σ ρ L x y dx dy Q r k
  obtain ⟨h1, h2⟩ := r.da2 ra rb
  unfold dNotIn dInB at k
  split at k
  · rename_i ys
    split at k
    · rename_i q
      obtain ⟨q1, q2⟩ := (Bool.and_eq_true _ _).mp q
      refine .inl ⟨py dx, pys ys, da_dp dx 20 x q1 h1, da_dp _ 20 y q2 h2, shaped_ok q1, shaped_ok q2, ?_⟩
      rw [any_pys]
      exact k.flat r.tail.tail rfl rfl
    · exact k.elim
  · rename_i ys
    split at k
    · rename_i x' ys' e1 e2
      obtain ⟨a, vs, g1, g2, g3⟩ := h2
      have e3 := flats_ok e2 g3
      have e4 := da_flat e1 h1
      subst e3
      subst e4
      exact .inr ⟨a, _, g1, .inr g2, flat_flat e1, flats_flat e2, k.flat r.tail.tail rfl rfl⟩
    · exact k.elim
  · exact k.elim
end
end DL
end

/-! text DL5 -/
section
set_option maxRecDepth 100000
set_option maxHeartbeats 4000000
/-! the data layer, part 5: tests, built-ins, slices -/
namespace DL
open PySem PySem.Spec PyProof.Rows L2

section
variable {C : Cxt} {W : Wx} {F F' H H' : Hp} {Γ : List Md} {σ : L2.St} {ρ : EnvD} {L : List Ent} {m ma mb mc : Md} {d : DV} {v : V}
theorem Rep.perm (r : Rep C F H Γ σ ρ L) : Rep C F H Γ σ ρ L := r
/-! ### tests -/
def asB : DV → Rs Bool
  | .bl b => .ok b
  | _ => .stuck
def gB (g : GE) : GT := fun ρ => (g ρ).bind asB
theorem st_b {t : TE} {g : GE} (h : SE C W Γ t g m) (q : m.rd = true := by rfl) : ST C W Γ (tB t) (gB g) := by
  intro F H σ ρ L Q hL r k
  show t σ H fun x H1 => ∃ c, x = .bl c ∧ Q c H1
  refine se_thenT h hL r k fun d F1 H1 x s1 s2 r1 k1 => ?_
  have hd := r1.da q
  cases d with
  | bl b => exact ⟨b, hd, k1 F1 H1 (Same.refl _) (Same.refl _) r1.tail⟩
  | _ => exact k1.elim
def asT : DV → Rs Bool
  | .non => .ok false
  | .bl b => .ok b
  | .int i => .ok (i != 0)
  | .lst ds => .ok (!ds.isEmpty)
  | .tup ds => .ok (!ds.isEmpty)
  | _ => .stuck
def gTru (g : GE) : GT := fun ρ => (g ρ).bind asT
theorem isE {ds : List DV} {vs : List V} (h : ds.length = vs.length) : (!ds.isEmpty) = !vs.isEmpty := by
  cases ds <;> cases vs <;> first | rfl | cases h
theorem st_tru {t : TE} {g : GE} (h : SE C W Γ t g m) (q : m.rd = true := by rfl) : ST C W Γ (tTru C.K t) (gTru g) := by
  intro F H σ ρ L Q hL r k
  show t σ H fun x H1 => ∃ c, TruV C.K x H1 c ∧ Q c H1
  refine se_thenT h hL r k fun d F1 H1 x s1 s2 r1 k1 => ?_
  have hd := r1.da q
  have fin : ∀ b, PT' C W Γ F1 H1 σ ρ L Q (.ok b) → Q b H1 := fun b k => k F1 H1 (Same.refl _) (Same.refl _) r1.tail
  cases d with
  | non => cases hd; exact ⟨false, rfl, fin _ k1⟩
  | bl b => cases hd; exact ⟨b, rfl, fin _ k1⟩
  | int i => cases hd; exact ⟨_, rfl, fin _ k1⟩
  | lst ds =>
    obtain ⟨a, vs, rfl, h2, h3⟩ := hd
    exact ⟨_, .inl ⟨vs, .inl h2, isE h3.length⟩, fin _ k1⟩
  | tup ds =>
    obtain ⟨a, vs, rfl, h2, h3⟩ := hd
    exact ⟨_, .inr (.inl ⟨vs, h2, isE h3.length⟩), fin _ k1⟩
  | _ => exact k1.elim
def gAnd (a b : GT) : GT := fun ρ => (a ρ).bind fun c => if c = true then b ρ else .ok false
def gOr (a b : GT) : GT := fun ρ => (a ρ).bind fun c => if c = true then .ok true else b ρ
def gNot (a : GT) : GT := fun ρ => (a ρ).bind fun c => .ok (!c)
theorem st_and {t u : TT} {f g : GT} (h1 : ST C W Γ t f) (h2 : ST C W Γ u g) : ST C W Γ (tAnd t u) (gAnd f g) := by
  intro F H σ ρ L Q hL r k
  show t σ H fun c H1 => if c = true then u σ H1 Q else Q false H1
  refine st_thenT h1 hL r k fun b F1 H1 s1 s2 r1 k1 => ?_
  cases b with
  | true => rw [if_pos rfl] at k1 ⊢; exact h2 F1 H1 σ ρ L Q hL r1 k1
  | false => rw [if_neg Bool.false_ne_true] at k1 ⊢; exact k1 F1 H1 (Same.refl _) (Same.refl _) r1
theorem st_or {t u : TT} {f g : GT} (h1 : ST C W Γ t f) (h2 : ST C W Γ u g) : ST C W Γ (tOr t u) (gOr f g) := by
  intro F H σ ρ L Q hL r k
  show t σ H fun c H1 => if c = true then Q true H1 else u σ H1 Q
  refine st_thenT h1 hL r k fun b F1 H1 s1 s2 r1 k1 => ?_
  cases b with
  | false => rw [if_neg Bool.false_ne_true] at k1 ⊢; exact h2 F1 H1 σ ρ L Q hL r1 k1
  | true => rw [if_pos rfl] at k1 ⊢; exact k1 F1 H1 (Same.refl _) (Same.refl _) r1
theorem st_not {t : TT} {f : GT} (h : ST C W Γ t f) : ST C W Γ (tNot t) (gNot f) := by
  intro F H σ ρ L Q hL r k
  show t σ H fun c H1 => Q (!c) H1
  refine st_thenT h hL r k fun b F1 H1 s1 s2 r1 k1 => ?_
  exact k1 F1 H1 (Same.refl _) (Same.refl _) r1
/-! ### tests as values, choices -/
def gIf (c : GT) (a b : GE) : GE := fun ρ => (c ρ).bind fun z => if z = true then a ρ else b ρ
theorem se_if {t : TT} {ta tb : TE} {f : GT} {ga gb : GE} (h : ST C W Γ t f) (ha : SE C W Γ ta ga m) (hb : SE C W Γ tb gb m) : SE C W Γ (tIf t ta tb) (gIf f ga gb) m := by
  intro F H σ ρ L Q hL r k
  show t σ H fun c H1 => if c = true then ta σ H1 Q else tb σ H1 Q
  refine st_then h hL r k fun b F1 H1 s1 s2 r1 k1 => ?_
  cases b with
  | true => rw [if_pos rfl] at k1 ⊢; exact ha F1 H1 σ ρ L Q hL r1 k1
  | false => rw [if_neg Bool.false_ne_true] at k1 ⊢; exact hb F1 H1 σ ρ L Q hL r1 k1
def gAndV (a b : GE) : GE := fun ρ => ((a ρ).bind asB).bind fun c => if c = true then b ρ else .ok (.bl false)
def gOrV (a b : GE) : GE := fun ρ => ((a ρ).bind asB).bind fun c => if c = true then .ok (.bl true) else b ρ
def gNotV (a : GE) : GE := fun ρ => ((a ρ).bind asB).bind fun c => .ok (.bl (!c))
theorem bind2 {α β γ : Type} (r : Rs α) (f : α → Rs β) (g : β → Rs γ) : (r.bind f).bind g = r.bind fun x => (f x).bind g := by cases r <;> rfl
theorem se_andV {ta tb : TE} {ga gb : GE} (ha : SE C W Γ ta ga ma) (hb : SE C W Γ tb gb m) (qa : ma.rd = true := by rfl) (q : m.rd = true := by rfl) : SE C W Γ (tAndV ta tb) (gAndV ga gb) m := by
  intro F H σ ρ L Q hL r k
  show ta σ H fun x H1 => ∃ c, x = .bl c ∧ if c = true then tb σ H1 Q else Q (.bl false) H1
  unfold gAndV at k
  rw [bind2] at k
  refine se_then ha hL r k fun d F1 H1 x s1 s2 r1 k1 => ?_
  have hd := r1.da qa
  cases d with
  | bl c =>
    refine ⟨c, hd, ?_⟩
    cases c with
    | true => exact hb F1 H1 σ ρ L Q hL r1.tail k1
    | false => exact k1.flat r1.tail q rfl
  | _ => exact k1.elim
theorem se_orV {ta tb : TE} {ga gb : GE} (ha : SE C W Γ ta ga ma) (hb : SE C W Γ tb gb m) (qa : ma.rd = true := by rfl) (q : m.rd = true := by rfl) : SE C W Γ (tOrV ta tb) (gOrV ga gb) m := by
  intro F H σ ρ L Q hL r k
  show ta σ H fun x H1 => ∃ c, x = .bl c ∧ if c = true then Q (.bl true) H1 else tb σ H1 Q
  unfold gOrV at k
  rw [bind2] at k
  refine se_then ha hL r k fun d F1 H1 x s1 s2 r1 k1 => ?_
  have hd := r1.da qa
  cases d with
  | bl c =>
    refine ⟨c, hd, ?_⟩
    cases c with
    | false => exact hb F1 H1 σ ρ L Q hL r1.tail k1
    | true => exact k1.flat r1.tail q rfl
  | _ => exact k1.elim
theorem se_notV {ta : TE} {ga : GE} (ha : SE C W Γ ta ga ma) (qa : ma.rd = true := by rfl) : SE C W Γ (tNotV ta) (gNotV ga) .fr := by
  intro F H σ ρ L Q hL r k
  show ta σ H fun x H1 => ∃ c, x = .bl c ∧ Q (.bl (!c)) H1
  unfold gNotV at k
  rw [bind2] at k
  refine se_then ha hL r k fun d F1 H1 x s1 s2 r1 k1 => ?_
  have hd := r1.da qa
  cases d with
  | bl c => exact ⟨c, hd, k1.flat r1.tail rfl rfl⟩
  | _ => exact k1.elim
/-- not x of a test -/
def gNotT (f : GT) : GE := fun ρ => (f ρ).bind fun c => .ok (.bl (!c))
/-! a < b < c -/
def gChain (op op' : OpD) (ga gb gc : GE) : GE := fun ρ => (ga ρ).bind fun x => (gb ρ).bind fun y => (op x y).bind fun z => (asB z).bind fun k => if k = true then (gc ρ).bind fun w => op' y w else .ok (.bl false)
theorem se_chain {r r' : R2} {op op' : OpD} {ta tb tc : TE} {ga gb gc : GE} (ho : OpS C W r op ma mb .fr) (ho' : OpS C W r' op' mb mc .fr) (ha : SE C W Γ ta ga ma) (hb : SE C W Γ tb gb mb) (hc : SE C W Γ tc gc mc) (qa : ma.free = true := by rfl) (qb : mb.free = true := by rfl) :
    SE C W Γ (tChain r r' ta tb tc) (gChain op op' ga gb gc) .fr := by
  intro F H σ ρ L Q hL r0 k
  show ta σ H fun x H1 => tb σ H1 fun y H2 => r x y H2 fun z H3 => ∃ k, z = .bl k ∧ (if k = true then tc σ H3 fun w' H4 => r' y w' H4 Q else Q (.bl false) H3)
  refine se_then ha hL r0 k fun dx F1 H1 x s1 s2 r1 k1 => ?_
  refine se_then hb (okL_cons (show (ma.stor || ma.free) = true by rw [qa, Bool.or_true]) hL) r1 k1 fun dy F2 H2 y s3 s4 r2 k2 => ?_
  have ay := r2.free qb
  have ax := r2.tail.free qa
  have r3 : Rep C F2 H2 Γ σ ρ ((mb, dy, y) :: (ma, dx, x) :: (mb, dy, y) :: L) := by
    have q0 := r2.tail.tail
    exact ((q0.cons0 ay).cons0 ax).cons0 ay
  refine ho Γ F2 H2 σ ρ _ x y dx dy _ r3 ?_
  revert k2
  cases op dx dy with
  | stuck => exact fun k => k
  | ex c d => exact fun k => k
  | ok dz =>
    intro k2 F3 H3 z s5 s6 r4
    have hz := r4.da rfl
    cases dz with
    | bl b =>
      refine ⟨b, hz, ?_⟩
      have k3 := k2.mono s5 s6
      cases b with
      | false => exact k3.flat r4.tail.tail rfl rfl
      | true =>
        rw [if_pos rfl]
        refine se_then hc (okL_cons (show (mb.stor || mb.free) = true by rw [qb, Bool.or_true]) hL) r4.tail (show PE' C W Γ F3 H3 σ ρ L .fr Q ((gc ρ).bind fun w => op' dy w) from k3) fun dw F4 H4 w s7 s8 r5 k4 => ?_
        exact ho' Γ F4 H4 σ ρ L y w dy dw Q r5 k4
    | _ => exact k2.elim
/-! unary -/
def dNeg : DV → Rs DV
  | .int i => .ok (.int (-i))
  | _ => .stuck
def gUn (f : DV → Rs DV) (g : GE) : GE := fun ρ => (g ρ).bind f
theorem se_neg {t : TE} {g : GE} (h : SE C W Γ t g m) (q : m.rd = true := by rfl) : SE C W Γ (tUn (rU fun i => .int (-i)) t) (gUn dNeg g) .fr := by
  intro F H σ ρ L Q hL r k
  show t σ H fun x H1 => ∃ i, x = .int i ∧ Q (.int (-i)) H1
  refine se_then h hL r k fun d F1 H1 x s1 s2 r1 k1 => ?_
  have hd := r1.da q
  cases d with
  | int i => exact ⟨i, hd, k1.flat r1.tail rfl rfl⟩
  | _ => exact k1.elim

/-! ### calls of built-ins -/
abbrev OpA := List DV → Rs DV
abbrev RA := List V → Hp → VK → Prop
def CallS (C : Cxt) (W : Wx) (r : RA) (op : OpA) (ms : List Md) (m : Md) : Prop :=
  ∀ Γ F H σ ρ L vs ds Q, ds.length = vs.length → ms.length = vs.length → Rep C F H Γ σ ρ (entsA ms ds vs L) → PE' C W Γ F H σ ρ L m Q (op ds) → r vs H Q
def gCB (op : OpA) (g : GA) : GE := fun ρ => (g ρ).bind op
theorem se_cb {r : RA} {op : OpA} {ms : List Md} {t : TA} {g : GA} (ho : CallS C W r op ms m) (h : SA C W Γ t g ms) : SE C W Γ (tCB r t) (gCB op g) m := by
  intro F H σ ρ L Q hL r0 k
  show t σ H fun vs H1 => r vs H1 Q
  refine sa_then h hL r0 k fun ds F1 H1 vs s1 s2 e1 e2 r1 k1 => ?_
  exact ho Γ F1 H1 σ ρ L vs ds Q e1 e2 r1 k1
/-- one argument -/
theorem call1 {r : RA} {op : OpA} (h : ∀ Γ F H σ ρ L x dx Q, Rep C F H Γ σ ρ ((ma, dx, x) :: L) → PE' C W Γ F H σ ρ L m Q (op [dx]) → r [x] H Q) : CallS C W r op [ma] m := by
  intro Γ F H σ ρ L vs ds Q e1 e2 r0 k
  match vs, ds, e1, e2, r0, k with
  | [x], [dx], _, _, r0, k => exact h Γ F H σ ρ L x dx Q r0 k
theorem call2 {r : RA} {op : OpA} (h : ∀ Γ F H σ ρ L x y dx dy Q, Rep C F H Γ σ ρ ((mb, dy, y) :: (ma, dx, x) :: L) → PE' C W Γ F H σ ρ L m Q (op [dx, dy]) → r [x, y] H Q) : CallS C W r op [ma, mb] m := by
  intro Γ F H σ ρ L vs ds Q e1 e2 r0 k
  match vs, ds, e1, e2, r0, k with
  | [x, y], [dx, dy], _, _, r0, k => exact h Γ F H σ ρ L x y dx dy Q r0 k
def raOr (a b : RA) : RA := fun vs H Q => a vs H Q ∨ b vs H Q
theorem CallR_or {X : Cx} {f : Value} {a b : RA} (h1 : CallR X f a) (h2 : CallR X f b) : CallR X f (raOr a b) := fun pins s σ H xs us Q I r h => h.elim (h1 pins s σ H xs us Q I r) (h2 pins s σ H xs us Q I r)
/-! len -/
def dLen : OpA
  | [.lst ds] => .ok (.int ds.length)
  | [.tup ds] => .ok (.int ds.length)
  | [.dct ks _] => .ok (.int ks.length)
  | [.str z] => if z.length ≤ sizeLine then .ok (.int z.length) else .stuck
  | _ => .stuck
abbrev rLenSeq (K : PySem.W.Frag) : RA := fun xs H Q => ∃ p ys, xs = [.ref p] ∧ (SqL K H p ys ∨ SqT K H p ys) ∧ Q (.int ys.length) H
abbrev rLenStr : RA := fun xs H Q => ∃ z, xs = [.str z] ∧ z.length ≤ sizeLine ∧ Q (.int z.length) H
abbrev rLenDct : RA := fun xs H Q => ∃ a kvs, xs = [V.ref a] ∧ H a = some (.dK kvs) ∧ Q (.int kvs.length) H
abbrev rLenX (K : PySem.W.Frag) : RA := raOr (rLenSeq K) (raOr rLenStr rLenDct)
theorem call_lenX {X : Cx} : CallR X (.builtin "len") (rLenX X.K) := CallR_or call_len_seq (CallR_or call_len_str call_lenD)
theorem cs_len (q : ma.ixok = true := by rfl) : CallS C W (rLenX C.K) dLen [ma] .fr := call1 fun Γ F H σ ρ L x dx Q r k => by
  cases dx with
  | lst ds =>
    obtain ⟨a, vs, h1, h2, h3⟩ := r.items q
    subst h1
    refine .inl ⟨a, vs, rfl, .inl h2.1, ?_⟩
    rw [← h3.length]
    exact k.flat r.tail rfl rfl
  | tup ds =>
    obtain ⟨a, vs, h1, h2, h3⟩ := r.parts q
    subst h1
    refine .inl ⟨a, vs, rfl, .inr h2, ?_⟩
    rw [← h3.length]
    exact k.flat r.tail rfl rfl
  | dct ks ds =>
    have hd : DA C.K C.mg H (.dct ks ds) x := r.daX q (fun _ h => by cases h)
    obtain ⟨a, vs, rfl, ⟨h2, h4⟩, h3⟩ := hd
    refine .inr (.inr ⟨a, _, rfl, h2, ?_⟩)
    rw [List.length_zip, ← h4, Nat.min_self]
    exact k.flat r.tail rfl rfl
  | str z =>
    obtain rfl : x = .str z := r.daX q (fun _ h => by cases h)
    revert k
    show PE' C W Γ F H σ ρ L .fr Q (if z.length ≤ sizeLine then .ok (.int z.length) else .stuck) → _
    split
    · rename_i hz
      exact fun k => .inr (.inl ⟨z, rfl, hz, k.flat r.tail rfl rfl⟩)
    · exact fun k => k.elim
  | _ => exact k.elim
end
end DL
end

/-! text DL6 -/
section
set_option maxRecDepth 100000
set_option maxHeartbeats 4000000
/-! the data layer, part 6: built-ins, slices -/
namespace DL
open PySem PySem.Spec PyProof.Rows L2
section
variable {C : Cxt} {W : Wx} {F F' H H' : Hp} {Γ : List Md} {σ : L2.St} {ρ : EnvD} {L : List Ent} {m ma mb mc : Md} {d : DV} {v : V}
/-! lists of iLst, of truth values -/
def iLst : List DV → Option (List Int)
  | [] => some []
  | .int i :: ds => (iLst ds).map (i :: ·)
  | _ :: _ => none
def bls : List DV → Option (List Bool)
  | [] => some []
  | .bl b :: ds => (bls ds).map (b :: ·)
  | _ :: _ => none
theorem ints_ok : ∀ {ds : List DV} {ns : List Int}, iLst ds = some ns → ds = ns.map DV.int
  | [], ns, h => by cases h; rfl
  | .int i :: ds, ns, h => by
    unfold iLst at h
    cases e : iLst ds with
    | none => rw [e] at h; cases h
    | some r => rw [e] at h; cases h; rw [ints_ok e]; rfl
  | .non :: _, _, h => by cases h
  | .bl _ :: _, _, h => by cases h
  | .str _ :: _, _, h => by cases h
  | .tup _ :: _, _, h => by cases h
  | .lst _ :: _, _, h => by cases h
  | .dct _ _ :: _, _, h => by cases h
  | .obj _ _ _ :: _, _, h => by cases h
theorem bls_ok : ∀ {ds : List DV} {ns : List Bool}, bls ds = some ns → ds = ns.map DV.bl
  | [], ns, h => by cases h; rfl
  | .bl i :: ds, ns, h => by
    unfold bls at h
    cases e : bls ds with
    | none => rw [e] at h; cases h
    | some r => rw [e] at h; cases h; rw [bls_ok e]; rfl
  | .non :: _, _, h => by cases h
  | .int _ :: _, _, h => by cases h
  | .str _ :: _, _, h => by cases h
  | .tup _ :: _, _, h => by cases h
  | .lst _ :: _, _, h => by cases h
  | .dct _ _ :: _, _, h => by cases h
  | .obj _ _ _ :: _, _, h => by cases h
theorem ints_map (ns : List Int) : iLst (ns.map DV.int) = some ns := by
  induction ns with
  | nil => rfl
  | cons n ns ih => show (iLst (ns.map DV.int)).map (n :: ·) = _; rw [ih]; rfl
theorem bls_map (ns : List Bool) : bls (ns.map DV.bl) = some ns := by
  induction ns with
  | nil => rfl
  | cons n ns ih => show (bls (ns.map DV.bl)).map (n :: ·) = _; rw [ih]; rfl
theorem At.int1 {i : Int} {fp : List Addr} (h : At C F H m (.int i) v fp) : v = .int i := by
  cases m with
  | fr => exact h.2
  | bo => exact h.2
  | sc => obtain ⟨_, a, ns, _, h2, _⟩ := h; cases h2
  | pk m => unfold At at h; rw [if_neg (by exact Bool.false_ne_true)] at h; exact h.2
  | tu m => unfold At at h; rw [if_neg (by exact Bool.false_ne_true)] at h; exact h.2
  | po m => unfold At at h; rw [if_neg (by exact Bool.false_ne_true)] at h; exact h.2
  | own m => unfold At at h; rw [if_neg (by exact Bool.false_ne_true)] at h; exact h.2
  | ob m => unfold At at h; rw [if_neg (by exact Bool.false_ne_true)] at h; exact h.2
theorem At.bl1 {i : Bool} {fp : List Addr} (h : At C F H m (.bl i) v fp) : v = .bl i := by
  cases m with
  | fr => exact h.2
  | bo => exact h.2
  | sc => obtain ⟨_, a, ns, _, h2, _⟩ := h; cases h2
  | pk m => unfold At at h; rw [if_neg (by exact Bool.false_ne_true)] at h; exact h.2
  | tu m => unfold At at h; rw [if_neg (by exact Bool.false_ne_true)] at h; exact h.2
  | po m => unfold At at h; rw [if_neg (by exact Bool.false_ne_true)] at h; exact h.2
  | own m => unfold At at h; rw [if_neg (by exact Bool.false_ne_true)] at h; exact h.2
  | ob m => unfold At at h; rw [if_neg (by exact Bool.false_ne_true)] at h; exact h.2
theorem Alls.iLst : ∀ {ns : List Int} {vs : List V} {fp : List Addr}, Alls (At C F H m) (ns.map DV.int) vs fp → vs = ns.map V.int
  | [], _, _, h => h.1
  | n :: ns, _, _, ⟨v, r, f1, f2, h1, h2, h3, h4⟩ => by rw [h1, h3.int1, Alls.iLst h4]; rfl
theorem Alls.bls : ∀ {ns : List Bool} {vs : List V} {fp : List Addr}, Alls (At C F H m) (ns.map DV.bl) vs fp → vs = ns.map V.bl
  | [], _, _, h => h.1
  | n :: ns, _, _, ⟨v, r, f1, f2, h1, h2, h3, h4⟩ => by rw [h1, h3.bl1, Alls.bls h4]; rfl
theorem Rep.newInts {ns : List Int} {p : Addr} (r : Rep C F H Γ σ ρ L) (np : H p = none) : Rep C F (upd H p (.lst (ns.map V.int))) Γ σ ρ ((.own .fr, .lst (ns.map .int), .ref p) :: L) := by
  refine r.newl np ?_
  induction ns with
  | nil => exact ⟨rfl, rfl⟩
  | cons n ns ih => exact ⟨.int n, _, [], [], rfl, rfl, ⟨rfl, rfl⟩, ih⟩
/-! int(x), abs(x), max(x, y), min(x, y), gcd(x, y) -/
def dInt : OpA
  | [.int i] => .ok (.int i)
  | [.bl k] => .ok (.int (if k = true then 1 else 0))
  | _ => .stuck
abbrev rInt : RA := fun xs H Q => (∃ i, xs = [.int i] ∧ Q (.int i) H) ∨ ∃ k, xs = [.bl k] ∧ Q (.int (if k then 1 else 0)) H
theorem cs_int (q : ma.rd = true := by rfl) : CallS C W rInt dInt [ma] .fr := call1 fun Γ F H σ ρ L x dx Q r k => by
  have hd := r.da q
  cases dx with
  | int i => cases hd; exact .inl ⟨i, rfl, k.flat r.tail rfl rfl⟩
  | bl b => cases hd; exact .inr ⟨b, rfl, k.flat r.tail rfl rfl⟩
  | _ => exact k.elim
def dAbs : OpA
  | [.int i] => .ok (.int (if i < 0 then -i else i))
  | _ => .stuck
abbrev rAbs : RA := fun xs H Q => ∃ i, xs = [.int i] ∧ Q (.int (if i < 0 then -i else i)) H
theorem cs_abs (q : ma.rd = true := by rfl) : CallS C W rAbs dAbs [ma] .fr := call1 fun Γ F H σ ρ L x dx Q r k => by
  have hd := r.da q
  cases dx with
  | int i => cases hd; exact ⟨i, rfl, k.flat r.tail rfl rfl⟩
  | _ => exact k.elim
def d2I (g : Int → Int → Int) : OpA
  | [.int i, .int j] => .ok (.int (g i j))
  | _ => .stuck
theorem cs_2I {g : Int → Int → Int} (qa : ma.rd = true := by rfl) (qb : mb.rd = true := by rfl) : CallS C W (fun xs H Q => ∃ i j, xs = [.int i, .int j] ∧ Q (.int (g i j)) H) (d2I g) [ma, mb] .fr := call2 fun Γ F H σ ρ L x y dx dy Q r k => by
  obtain ⟨h1, h2⟩ := r.da2 qa qb
  cases dx with
  | int i =>
    cases dy with
    | int j => cases h1; cases h2; exact ⟨i, j, rfl, k.flat r.tail.tail rfl rfl⟩
    | _ => exact k.elim
  | _ => cases dy <;> exact k.elim
abbrev dMax2 : OpA := d2I fun i j => if j > i then j else i
abbrev dMin2 : OpA := d2I fun i j => if j < i then j else i
abbrev dGcd : OpA := d2I fun a b => ((Nat.gcd a.natAbs b.natAbs : Nat) : Int)
theorem cs_max2 (qa : ma.rd = true := by rfl) (qb : mb.rd = true := by rfl) : CallS C W (fun xs H Q => ∃ i j, xs = [.int i, .int j] ∧ Q (.int (if j > i then j else i)) H) dMax2 [ma, mb] .fr := cs_2I qa qb
theorem cs_min2 (qa : ma.rd = true := by rfl) (qb : mb.rd = true := by rfl) : CallS C W (fun xs H Q => ∃ i j, xs = [.int i, .int j] ∧ Q (.int (if j < i then j else i)) H) dMin2 [ma, mb] .fr := cs_2I qa qb
theorem cs_gcd (qa : ma.rd = true := by rfl) (qb : mb.rd = true := by rfl) : CallS C W rGcd dGcd [ma, mb] .fr := cs_2I qa qb
/-! list(x), tuple(x) -/
def dList : OpA
  | [.lst ds] => .ok (.lst ds)
  | [.tup ds] => .ok (.lst ds)
  | _ => .stuck
abbrev rListOf (K : PySem.W.Frag) : RA := fun xs H Q => ∃ p ys, xs = [.ref p] ∧ (SqL K H p ys ∨ SqT K H p ys) ∧ ∀ l, H l = none → Q (.ref l) (upd H l (.lst ys))
theorem cs_list (q : ma.ixok = true := by rfl) : CallS C W (rListOf C.K) dList [ma] (.own ma.kid) := call1 fun Γ F H σ ρ L x dx Q r k => by
  cases dx with
  | lst ds =>
    obtain ⟨a, vs, h1, h2, h3⟩ := r.items q
    subst h1
    exact ⟨a, vs, rfl, .inl h2.1, fun p np => k F _ _ (Same.refl _) (same_upd np) (r.tail.newl np h3)⟩
  | tup ds =>
    obtain ⟨a, vs, h1, h2, h3⟩ := r.parts q
    subst h1
    exact ⟨a, vs, rfl, .inr h2, fun p np => k F _ _ (Same.refl _) (same_upd np) (r.tail.newl np h3)⟩
  | _ => exact k.elim
/-! sum, any, all, max, min, sorted over one list -/
def dSum : OpA
  | [.lst ds] => match iLst ds with
    | some ns => .ok (.int ns.sum)
    | none => .stuck
  | _ => .stuck
theorem cs_sum (q : ma.ixok = true := by rfl) : CallS C W (rSum C.K) dSum [ma] .fr := call1 fun Γ F H σ ρ L x dx Q r k => by
  cases dx with
  | lst ds =>
    obtain ⟨a, vs, h1, h2, h3⟩ := r.items q
    subst h1
    revert k
    show PE' C W Γ F H σ ρ L .fr Q (match iLst ds with | some ns => .ok (.int ns.sum) | none => .stuck) → _
    cases e : iLst ds with
    | none => exact fun k => k.elim
    | some ns =>
      intro k
      have e2 := ints_ok e
      subst e2
      have e3 := h3.iLst
      subst e3
      exact ⟨a, ns, rfl, h2.1, k.flat r.tail rfl rfl⟩
  | _ => exact k.elim
def dAll : OpA
  | [.lst ds] => match bls ds with
    | some ns => .ok (.bl (ns.all id))
    | none => .stuck
  | _ => .stuck
theorem cs_all (q : ma.ixok = true := by rfl) : CallS C W (rAll C.K) dAll [ma] .fr := call1 fun Γ F H σ ρ L x dx Q r k => by
  cases dx with
  | lst ds =>
    obtain ⟨a, vs, h1, h2, h3⟩ := r.items q
    subst h1
    revert k
    show PE' C W Γ F H σ ρ L .fr Q (match bls ds with | some ns => .ok (.bl (ns.all id)) | none => .stuck) → _
    cases e : bls ds with
    | none => exact fun k => k.elim
    | some ns =>
      intro k
      have e2 := bls_ok e
      subst e2
      have e3 := h3.bls
      subst e3
      exact ⟨a, ns, rfl, h2.1, k.flat r.tail rfl rfl⟩
  | _ => exact k.elim
def dAny : OpA
  | [.lst ds] => match bls ds with
    | some ns => .ok (.bl (ns.any id))
    | none => .stuck
  | _ => .stuck
theorem cs_any (q : ma.ixok = true := by rfl) : CallS C W (rAny C.K) dAny [ma] .fr := call1 fun Γ F H σ ρ L x dx Q r k => by
  cases dx with
  | lst ds =>
    obtain ⟨a, vs, h1, h2, h3⟩ := r.items q
    subst h1
    revert k
    show PE' C W Γ F H σ ρ L .fr Q (match bls ds with | some ns => .ok (.bl (ns.any id)) | none => .stuck) → _
    cases e : bls ds with
    | none => exact fun k => k.elim
    | some ns =>
      intro k
      have e2 := bls_ok e
      subst e2
      have e3 := h3.bls
      subst e3
      exact ⟨a, ns, rfl, h2.1, k.flat r.tail rfl rfl⟩
  | _ => exact k.elim
def maxI : Int → List Int → Int
  | n, [] => n
  | n, x :: xs => maxI (if n < x then x else n) xs
def minI : Int → List Int → Int
  | n, [] => n
  | n, x :: xs => minI (if x < n then x else n) xs
theorem maxI_ge : ∀ (xs : List Int) (n : Int), n ≤ maxI n xs ∧ (∀ y ∈ xs, y ≤ maxI n xs) ∧ (maxI n xs = n ∨ maxI n xs ∈ xs)
  | [], n => ⟨Int.le_refl _, (fun _ h => by cases h), .inl rfl⟩
  | x :: xs, n => by
    obtain ⟨h1, h2, h3⟩ := maxI_ge xs (if n < x then x else n)
    have h4 : n ≤ (if n < x then x else n) ∧ x ≤ (if n < x then x else n) := by split <;> constructor <;> omega
    refine ⟨Int.le_trans h4.1 h1, fun y hy => ?_, ?_⟩
    · rcases List.mem_cons.mp hy with rfl | hy
      · exact Int.le_trans h4.2 h1
      · exact h2 y hy
    · show maxI (if n < x then x else n) xs = n ∨ maxI (if n < x then x else n) xs ∈ x :: xs
      rcases h3 with h3 | h3
      · rw [h3]
        split
        · exact .inr List.mem_cons_self
        · exact .inl rfl
      · exact .inr (List.mem_cons_of_mem _ h3)
theorem minI_le : ∀ (xs : List Int) (n : Int), minI n xs ≤ n ∧ (∀ y ∈ xs, minI n xs ≤ y) ∧ (minI n xs = n ∨ minI n xs ∈ xs)
  | [], n => ⟨Int.le_refl _, (fun _ h => by cases h), .inl rfl⟩
  | x :: xs, n => by
    obtain ⟨h1, h2, h3⟩ := minI_le xs (if x < n then x else n)
    have h4 : (if x < n then x else n) ≤ n ∧ (if x < n then x else n) ≤ x := by split <;> constructor <;> omega
    refine ⟨Int.le_trans h1 h4.1, fun y hy => ?_, ?_⟩
    · rcases List.mem_cons.mp hy with rfl | hy
      · exact Int.le_trans h1 h4.2
      · exact h2 y hy
    · show minI (if x < n then x else n) xs = n ∨ minI (if x < n then x else n) xs ∈ x :: xs
      rcases h3 with h3 | h3
      · rw [h3]
        split
        · exact .inr List.mem_cons_self
        · exact .inl rfl
      · exact .inr (List.mem_cons_of_mem _ h3)
def dMax : OpA
  | [.lst ds] => match iLst ds with
    | some (n :: ns) => .ok (.int (maxI n ns))
    | _ => .stuck
  | _ => .stuck
def dMin : OpA
  | [.lst ds] => match iLst ds with
    | some (n :: ns) => .ok (.int (minI n ns))
    | _ => .stuck
  | _ => .stuck
theorem cs_max (q : ma.ixok = true := by rfl) : CallS C W (rMax C.K) dMax [ma] .fr := call1 fun Γ F H σ ρ L x dx Q r k => by
  cases dx with
  | lst ds =>
    obtain ⟨a, vs, h1, h2, h3⟩ := r.items q
    subst h1
    revert k
    show PE' C W Γ F H σ ρ L .fr Q (match iLst ds with | some (n :: ns) => .ok (.int (maxI n ns)) | _ => .stuck) → _
    cases e : iLst ds with
    | none => exact fun k => k.elim
    | some ns =>
      cases ns with
      | nil => exact fun k => k.elim
      | cons n ns =>
        intro k
        have e2 := ints_ok e
        subst e2
        have e3 := h3.iLst
        subst e3
        refine ⟨a, n :: ns, rfl, h2.1, Nat.succ_pos _, fun z hz hle => ?_⟩
        obtain ⟨g1, g2, g3⟩ := maxI_ge ns n
        have e4 : z = maxI n ns := Int.le_antisymm (by
          rcases List.mem_cons.mp hz with rfl | hz
          · exact g1
          · exact g2 z hz) (by
          rcases g3 with g3 | g3
          · rw [g3]; exact hle _ List.mem_cons_self
          · exact hle _ (List.mem_cons_of_mem _ g3))
        rw [e4]
        exact k.flat r.tail rfl rfl
  | _ => exact k.elim
theorem cs_min (q : ma.ixok = true := by rfl) : CallS C W (rMin C.K) dMin [ma] .fr := call1 fun Γ F H σ ρ L x dx Q r k => by
  cases dx with
  | lst ds =>
    obtain ⟨a, vs, h1, h2, h3⟩ := r.items q
    subst h1
    revert k
    show PE' C W Γ F H σ ρ L .fr Q (match iLst ds with | some (n :: ns) => .ok (.int (minI n ns)) | _ => .stuck) → _
    cases e : iLst ds with
    | none => exact fun k => k.elim
    | some ns =>
      cases ns with
      | nil => exact fun k => k.elim
      | cons n ns =>
        intro k
        have e2 := ints_ok e
        subst e2
        have e3 := h3.iLst
        subst e3
        refine ⟨a, n :: ns, rfl, h2.1, Nat.succ_pos _, fun z hz hle => ?_⟩
        obtain ⟨g1, g2, g3⟩ := minI_le ns n
        have e4 : z = minI n ns := Int.le_antisymm (by
          rcases g3 with g3 | g3
          · rw [g3]; exact hle _ List.mem_cons_self
          · exact hle _ (List.mem_cons_of_mem _ g3)) (by
          rcases List.mem_cons.mp hz with rfl | hz
          · exact g1
          · exact g2 z hz)
        rw [e4]
        exact k.flat r.tail rfl rfl
  | _ => exact k.elim
/-- sorted: put in by order -/
def putI (n : Int) : List Int → List Int
  | [] => [n]
  | x :: xs => if n ≤ x then n :: x :: xs else x :: putI n xs
def sortI : List Int → List Int
  | [] => []
  | x :: xs => putI x (sortI xs)
theorem putI_perm (n : Int) : ∀ xs : List Int, (putI n xs).Perm (n :: xs)
  | [] => List.Perm.refl _
  | x :: xs => by
    unfold putI
    split
    · exact List.Perm.refl _
    · exact ((putI_perm n xs).cons x).trans (List.Perm.swap n x xs)
theorem sortI_perm : ∀ xs : List Int, (sortI xs).Perm xs
  | [] => List.Perm.refl _
  | x :: xs => (putI_perm x _).trans ((sortI_perm xs).cons x)
theorem putI_sorted (n : Int) : ∀ xs : List Int, xs.Pairwise (· ≤ ·) → (putI n xs).Pairwise (· ≤ ·)
  | [], _ => List.pairwise_singleton _ _
  | x :: xs, h => by
    have h1 := List.pairwise_cons.mp h
    unfold putI
    split
    · rename_i q
      refine List.pairwise_cons.mpr ⟨fun y hy => ?_, h⟩
      rcases List.mem_cons.mp hy with rfl | hy
      · exact q
      · exact Int.le_trans q (h1.1 y hy)
    · rename_i q
      refine List.pairwise_cons.mpr ⟨fun y hy => ?_, putI_sorted n xs h1.2⟩
      rcases List.mem_cons.mp ((putI_perm n xs).mem_iff.mp hy) with rfl | hy
      · omega
      · exact h1.1 y hy
theorem sortI_sorted : ∀ xs : List Int, (sortI xs).Pairwise (· ≤ ·)
  | [] => List.Pairwise.nil
  | x :: xs => putI_sorted x _ (sortI_sorted xs)
def dSorted : OpA
  | [.lst ds] => match iLst ds with
    | some ns => .ok (.lst ((sortI ns).map .int))
    | none => .stuck
  | _ => .stuck
theorem cs_sorted (q : ma.ixok = true := by rfl) : CallS C W (rSortedI C.K) dSorted [ma] (.own .fr) := call1 fun Γ F H σ ρ L x dx Q r k => by
  cases dx with
  | lst ds =>
    obtain ⟨a, vs, h1, h2, h3⟩ := r.items q
    subst h1
    revert k
    show PE' C W Γ F H σ ρ L (.own .fr) Q (match iLst ds with | some ns => .ok (.lst ((sortI ns).map .int)) | none => .stuck) → _
    cases e : iLst ds with
    | none => exact fun k => k.elim
    | some ns =>
      intro k
      have e2 := ints_ok e
      subst e2
      have e3 := h3.iLst
      subst e3
      refine ⟨a, ns, rfl, h2.1, fun ns' p pm so np => ?_⟩
      have e4 : ns' = sortI ns := PySem.W.ksm_same (pm.trans (sortI_perm ns).symm) so (sortI_sorted ns)
      subst e4
      exact k F _ _ (Same.refl _) (same_upd np) (r.tail.newInts np)
  | _ => exact k.elim

/-! ### slices -/
abbrev GO := EnvD → Rs (Option Int)
def PO' (C : Cxt) (W : Wx) (Γ : List Md) (F H : Hp) (σ : L2.St) (ρ : EnvD) (L : List Ent) (Q : Option Int → Hp → Prop) : Rs (Option Int) → Prop
  | .ok o => ∀ F' H', Same F F' → Same H H' → Rep C F' H' Γ σ ρ L → Q o H'
  | .ex c d => ∀ F' H', Same F F' → Same H H' → Fit C F' H' → W c d H'
  | .stuck => False
def SO (C : Cxt) (W : Wx) (Γ : List Md) (t : TO) (g : GO) : Prop :=
  ∀ F H σ ρ L Q, okL L → Rep C F H Γ σ ρ L → PO' C W Γ F H σ ρ L Q (g ρ) → t σ H Q
def gNoPart : GO := fun _ => .ok none
def gPart (g : GE) : GO := fun ρ => (g ρ).bind fun d => match d with
  | .int i => .ok (some i)
  | _ => .stuck
theorem so_none : SO C W Γ tNoPart gNoPart := fun F H σ ρ L Q hL r k => k F H (Same.refl _) (Same.refl _) r
theorem so_some {t : TE} {g : GE} (h : SE C W Γ t g m) (q : m.rd = true := by rfl) : SO C W Γ (tPart t) (gPart g) := by
  intro F H σ ρ L Q hL r k
  show t σ H fun x H1 => ∃ i, x = .int i ∧ Q (some i) H1
  refine h F H σ ρ L _ hL r ?_
  unfold gPart at k
  revert k
  cases g ρ with
  | ex c d => exact fun k => k
  | stuck => exact fun k => k
  | ok d =>
    intro k F1 H1 v s1 s2 r1
    have hd := r1.da q
    cases d with
    | int i => exact ⟨i, hd, k F1 H1 s1 s2 r1.tail⟩
    | _ => exact k.elim
theorem so_then {t : TO} {g : GO} {f : Option Int → Rs DV} {Q : VK} {R : Option Int → Hp → Prop} {L2' : List Ent} (ha : SO C W Γ t g) (hL : okL L) (r : Rep C F H Γ σ ρ L) (h : PE' C W Γ F H σ ρ L2' m Q ((g ρ).bind f))
    (k : ∀ b F1 H1, Same F F1 → Same H H1 → Rep C F1 H1 Γ σ ρ L → PE' C W Γ F1 H1 σ ρ L2' m Q (f b) → R b H1) : t σ H R := by
  refine ha F H σ ρ L R hL r ?_
  revert h
  cases g ρ with
  | ok d => exact fun h F1 H1 s1 s2 r1 => k d F1 H1 s1 s2 r1 (h.mono s1 s2)
  | ex c d => exact fun h => h
  | stuck => exact fun h => h
theorem ixok_ok : ∀ {m : Md}, m.ixok = true → (m.stor || m.free) = true
  | .fr, _ => rfl
  | .bo, _ => rfl
  | .sc, _ => rfl
  | .pk m, h => by rw [show (Md.pk m).free = true from fof m h, Bool.or_true]
  | .tu m, h => by rw [show (Md.tu m).free = true from fof m h, Bool.or_true]
  | .po m, h => by rw [show (Md.po m).free = true from fof m h, Bool.or_true]
where fof : ∀ (m : Md), m.fo = true → m.free = true
  | .fr, _ => rfl
  | .pk m, h => fof m h
  | .tu m, h => fof m h
  | .po m, h => fof m h
def cutD (xs : List DV) (lo hi : Option Int) : List DV := (xs.drop (HT.sIx xs.length 0 lo)).take (HT.sIx xs.length xs.length hi - HT.sIx xs.length 0 lo)
def dSl (d : DV) (lo hi : Option Int) : Rs DV := match d with
  | .lst ds => .ok (.lst (cutD ds lo hi))
  | .tup ds => .ok (.tup (cutD ds lo hi))
  | _ => .stuck
abbrev RS := V → Option Int → Option Int → Hp → VK → Prop
def rsOr (a b : RS) : RS := fun x l h H Q => a x l h H Q ∨ b x l h H Q
theorem SlR_or {X : Cx} {a b : RS} (h1 : SlR X a) (h2 : SlR X b) : SlR X (rsOr a b) := fun pins s σ H x v vl vu lo hi sl Q I r i p1 p2 h => h.elim (h1 pins s σ H x v vl vu lo hi sl Q I r i p1 p2) (h2 pins s σ H x v vl vu lo hi sl Q I r i p1 p2)
abbrev rSlX (K : PySem.W.Frag) : RS := rsOr (rSlL K) (rSlA K)
theorem sl_X {X : Cx} : SlR X (rSlX X.K) := SlR_or sl_list sl_tupA
def gSl (g : GE) (lo hi : GO) : GE := fun ρ => (g ρ).bind fun d => (lo ρ).bind fun l => (hi ρ).bind fun u => dSl d l u
theorem Alls.cut {R : DV → V → List Addr → Prop} {ds : List DV} {vs : List V} (h : Alls R ds vs []) (lo hi : Option Int) : Alls R (cutD ds lo hi) (cutV vs lo hi) [] := by
  unfold cutD cutV
  rw [← h.length]
  exact (h.drop _).take _
theorem At.free_pt {ds : List DV} {vs : List V} (q : m.free = true) (h : Alls (At C F H m) ds vs []) : Alls (At C F H m) ds vs [] := h
/-- a slice of a list (a new one), of a tuple whose parts are frozen -/
theorem se_sl {t : TE} {g : GE} {tl th : TO} {gl gh : GO} (ha : SE C W Γ t g ma) (hl : SO C W Γ tl gl) (hh : SO C W Γ th gh) (q : ma.ixok = true := by rfl) (qk : ma.kid = .fr := by rfl) : SE C W Γ (tSl (rSlX C.K) t tl th) (gSl g gl gh) (.own .fr) := by
  intro F H σ ρ L Q hL r0 k
  show t σ H fun x H1 => tl σ H1 fun l H2 => th σ H2 fun u H3 => rSlX C.K x l u H3 Q
  refine se_then ha hL r0 k fun d F1 H1 x s1 s2 r1 k1 => ?_
  refine so_then hl (okL_cons (ixok_ok q) hL) r1 k1 fun l F2 H2 s3 s4 r2 k2 => ?_
  refine so_then hh (okL_cons (ixok_ok q) hL) r2 k2 fun u F3 H3 s5 s6 r3 k3 => ?_
  cases d with
  | lst ds =>
    obtain ⟨a, vs, h1, h2, h3⟩ := r3.items q
    rw [qk] at h3
    exact .inl ⟨a, vs, h1, h2.1, fun p np => k3 F3 _ _ (Same.refl _) (same_upd np) (r3.tail.newl np (h3.cut l u))⟩
  | tup ds =>
    obtain ⟨a, vs, h1, h2, h3⟩ := r3.parts q
    rw [qk] at h3
    have k4 : PE' C W Γ F3 H3 σ ρ L (.own .fr) Q (.ok (.tup (cutD ds l u))) := k3
    have h4 : SqT C.K F3 a vs := tupO_rd r3.fit.tp h2
    have h5 : Alls (At C F3 H3 .fr) (cutD ds l u) (cutV vs l u) [] := h3.cut l u
    refine .inr ⟨a, vs, h1, h2, fun hz => ?_, fun hz p np => ?_⟩
    · have e : cutD ds l u = ds := by
        unfold cutD
        rw [h3.length, hz.1, hz.2, List.drop_zero, Nat.sub_zero, ← h3.length]
        exact List.take_length
      rw [e] at k4
      refine k4.give r3.tail ?_
      unfold At
      rw [if_neg (by exact Bool.false_ne_true)]
      exact ⟨rfl, a, vs, rfl, h4, h3.das fun d v f _ x => x.2⟩
    · obtain ⟨sf, r5⟩ := (show Rep C F3 H3 Γ σ ρ (entsA [] [] [] L) from r3.tail).tuple (m := .fr) (ds := []) (vs := []) (by simp) rfl rfl np
      have np2 := np
      have sh : Same H3 (upd H3 p (.tup (cutV vs l u))) := same_upd np
      have hp : F3 p = none := Same.free r3.fit.fh np
      have sf : Same F3 (upd F3 p (.tup (cutV vs l u))) := same_upd hp
      refine k4 (upd F3 p (.tup (cutV vs l u))) _ _ sf sh ?_
      have r6 : Rep C F3 H3 Γ σ ρ L := r3.tail
      obtain ⟨f1, f2, nd, a1, b1⟩ := r6.own
      have oa := a1.owned
      have ob := b1.owned
      have kp : ∀ x, Owned C F3 H3 x → upd H3 p (.tup (cutV vs l u)) x = H3 x := fun x ⟨_, _, u, e, _⟩ => by rw [upd_ne (ne_of_none e np)]
      have kf : ∀ x, Owned C F3 H3 x → upd F3 p (.tup (cutV vs l u)) x = none := fun x ⟨h, _, u, e, _⟩ => by rw [upd_ne (ne_of_none e np)]; exact h
      refine ⟨⟨r6.fit.ff.trans sf, fun x w e => ?_, r6.fit.bh.trans sh, fun x hx => ?_, fun x w e z => ?_⟩, r6.io, f1, f2, nd, a1.mono sf (fun x hx => kf x (oa x hx)) (fun x hx => kp x (oa x hx)) (.inr sh), [], f2, rfl, ?_, b1.mono sf (fun x hx => kf x (ob x hx)) (fun x hx => kp x (ob x hx)) (.inr sh)⟩
      · by_cases z : x = p
        · subst z; rw [upd_same] at e ⊢; exact e
        · rw [upd_ne z] at e ⊢; exact r6.fit.fh _ _ e
      · by_cases z : x = p
        · subst z; exact .inr (.inl (Same.free r6.fit.bh np))
        · rw [upd_ne z] at hx; exact r6.fit.f0 x hx
      · by_cases y : x = p
        · subst y; rw [upd_same] at e ⊢; exact e
        · rw [upd_ne y] at e ⊢; exact r6.fit.tp x w e z
      · unfold At
        rw [if_neg (by exact Bool.false_ne_true)]
        exact ⟨rfl, p, _, rfl, .inl (.inl upd_same), DAs.mono sf _ _ (h5.das fun d v f _ x => x.2)⟩
  | _ => exact k3.elim
end
end DL
end

/-! text DL7 -/
section
set_option maxRecDepth 100000
set_option maxHeartbeats 4000000
/-! the data layer, part 7: statements, loops -/
namespace DL
open PySem PySem.Spec PyProof.Rows L2
abbrev storL (L : List Ent) : Prop := L.all (fun e => e.1.stor) = true
theorem storL.ok {L : List Ent} (h : storL L) : okL L := fun e he => .inl (List.all_eq_true.mp h e he)
theorem storL_cons {e : Ent} {L : List Ent} (h1 : e.1.stor = true) (h2 : storL L) : storL (e :: L) := by
  show (e.1.stor && L.all fun e => e.1.stor) = true
  rw [h1, h2]
  rfl
def PS' (C : Cxt) (W : Wx) (mr : Md) (Γb Γ : List Md) (F H : Hp) (L : List Ent) (Dn : Ends) : Out → Prop
  | .nx ρ' => ∀ F' H' σ', Same F F' → Rep C F' H' Γ σ' ρ' L → Dn.nx σ' H'
  | .rt d ρ' => ∀ F' H' Γr σ' L' v, Same F F' → Rep C F' H' Γr σ' ρ' ((mr, d, v) :: L') → Dn.rt v H'
  | .bk ρ' => ∀ F' H' σ', Same F F' → Rep C F' H' Γb σ' ρ' L → Dn.bk σ' H'
  | .ct ρ' => ∀ F' H' σ', Same F F' → Rep C F' H' Γb σ' ρ' L → Dn.ct σ' H'
  | .ex c d => ∀ F' H', Same F F' → Fit C F' H' → W c d H'
  | .stuck => False
/-- a statement: the modes turn from Γ to Γ'; Γb: those at break and continue -/
def SS (C : Cxt) (W : Wx) (mr : Md) (Γb Γ : List Md) (t : TS) (g : GS) (Γ' : List Md) : Prop :=
  ∀ F H σ ρ L Dn, storL L → Rep C F H Γ σ ρ L → PS' C W mr Γb Γ' F H L Dn (g ρ) → t Dn σ H
/-- effectful expressions -/
def PX' (C : Cxt) (W : Wx) (Γ : List Md) (F H : Hp) (σ : L2.St) (L : List Ent) (m : Md) (Q : VK) : Rs (DV × EnvD) → Prop
  | .ok (d, ρ') => ∀ F' H' v, Same F F' → Rep C F' H' Γ σ ρ' ((m, d, v) :: L) → Q v H'
  | .ex c d => ∀ F' H', Same F F' → Fit C F' H' → W c d H'
  | .stuck => False
def SX (C : Cxt) (W : Wx) (Γ : List Md) (t : TE) (g : GX) (m : Md) : Prop :=
  ∀ F H σ ρ L Q, storL L → Rep C F H Γ σ ρ L → PX' C W Γ F H σ L m Q (g ρ) → t σ H Q
/-- targets: names alone; is: their slots -/
abbrev GG := DV → EnvD → Rs EnvD
def SN (C : Cxt) (Γ : List Md) (t : TG) (g : GG) (m : Md) (is : List Nat) : Prop :=
  ∀ F H σ ρ L d v ρ' (Q : L2.St → Hp → Prop), Rep C F H Γ σ ρ ((m, d, v) :: L) → g d ρ = .ok ρ' → (∀ σ', (∀ vs : List Nat, (∀ i ∈ is, i ∈ vs) → wipe σ' vs = wipe σ vs) → Rep C F H Γ σ' ρ' L → Q σ' H) → t v σ H Q
section
variable {C : Cxt} {W : Wx} {F F' H H' : Hp} {Γ Γb Γ' Γ2 : List Md} {σ : L2.St} {ρ : EnvD} {L : List Ent} {m ma mb mr : Md} {d : DV} {v : V} {Dn : Ends}
theorem PS'.mono {o : Out} (h : PS' C W mr Γb Γ F H L Dn o) (s : Same F F') : PS' C W mr Γb Γ F' H' L Dn o := by
  cases o with
  | nx ρ' => exact fun F2 H2 σ2 s2 => h F2 H2 σ2 (s.trans s2)
  | rt d ρ' => exact fun F2 H2 Γr σ2 L2 v s2 => h F2 H2 Γr σ2 L2 v (s.trans s2)
  | bk ρ' => exact fun F2 H2 σ2 s2 => h F2 H2 σ2 (s.trans s2)
  | ct ρ' => exact fun F2 H2 σ2 s2 => h F2 H2 σ2 (s.trans s2)
  | ex c d => exact fun F2 H2 s2 => h F2 H2 (s.trans s2)
  | stuck => exact h
theorem PX'.mono {Q : VK} {o : Rs (DV × EnvD)} (h : PX' C W Γ F H σ L m Q o) (s : Same F F') : PX' C W Γ F' H' σ L m Q o := by
  cases o with
  | ok p => exact fun F2 H2 v s2 => h F2 H2 v (s.trans s2)
  | ex c d => exact fun F2 H2 s2 => h F2 H2 (s.trans s2)
  | stuck => exact h
def gPure (g : GE) : GX := fun ρ => (g ρ).bind fun d => .ok (d, ρ)
theorem sx_of {t : TE} {g : GE} (h : SE C W Γ t g m) : SX C W Γ t (gPure g) m := by
  intro F H σ ρ L Q hs r k
  refine h F H σ ρ L Q hs.ok r ?_
  unfold gPure at k
  revert k
  cases g ρ with
  | ok d => exact fun k F1 H1 v s1 s2 r1 => k F1 H1 v s1 r1
  | ex c d => exact fun k F1 H1 s1 s2 f1 => k F1 H1 s1 f1
  | stuck => exact fun k => k
/-- a name's data, moved out of its slot -/
def gMove (i : Nat) : GX := fun ρ => (lk ρ i).bind fun d => .ok (d, ρ.set i none)
theorem sx_move {i : Nat} (e : Γ[i]? = some m) : SX C W Γ (tVar i) (gMove i) m := by
  intro F H σ ρ L Q hs r k
  unfold gMove at k
  rcases lk_cases ρ i with ⟨d, e2, e3⟩ | e3
  · rw [e3] at k
    obtain ⟨v, h1, r1⟩ := r.take e e2
    exact ⟨v, h1, k F H v (Same.refl _) r1⟩
  · rw [e3] at k
    exact k.elim
/-- frozen -/
theorem sx_fr {t : TE} {g : GX} (h : SX C W Γ t g m) (q : m.fz = true) : SX C W Γ t g .fr := by
  intro F H σ ρ L Q hs r k
  refine h F H σ ρ L Q hs r ?_
  revert k
  cases g ρ with
  | ok p =>
    intro k F1 H1 v s1 r1
    obtain ⟨F2, s3, r2⟩ := r1.freeze q
    exact k F2 H1 v (s1.trans s3) r2
  | ex c d => exact fun k => k
  | stuck => exact fun k => k

/-! ### plain statements -/
def gSeq (f g : GS) : GS := fun ρ => match f ρ with
  | .nx ρ' => g ρ'
  | o => o
theorem ss_seq {t u : TS} {f g : GS} (h1 : SS C W mr Γb Γ t f Γ') (h2 : SS C W mr Γb Γ' u g Γ2) : SS C W mr Γb Γ (tSeq t u) (gSeq f g) Γ2 := by
  intro F H σ ρ L Dn hs r k
  show t { Dn with nx := u Dn } σ H
  refine h1 F H σ ρ L _ hs r ?_
  unfold gSeq at k
  revert k
  cases f ρ with
  | nx ρ' => exact fun k F1 H1 σ1 s1 r1 => h2 F1 H1 σ1 ρ' L Dn hs r1 (k.mono s1)
  | rt d ρ' => exact fun k => k
  | bk ρ' => exact fun k => k
  | ct ρ' => exact fun k => k
  | ex c d => exact fun k => k
  | stuck => exact fun k => k
def gNext : GS := fun ρ => .nx ρ
theorem ss_nil : SS C W mr Γb Γ tNext gNext Γ := fun F H σ ρ L Dn hs r k => k F H σ (Same.refl _) r
def gBrk : GS := fun ρ => .bk ρ
def gCnt : GS := fun ρ => .ct ρ
theorem ss_brk : SS C W mr Γ Γ tBreak gBrk Γ' := fun F H σ ρ L Dn hs r k => k F H σ (Same.refl _) r
theorem ss_cnt : SS C W mr Γ Γ tCont gCnt Γ' := fun F H σ ρ L Dn hs r k => k F H σ (Same.refl _) r
def gNever : GS := fun _ => .stuck
theorem ss_never {t : TS} : SS C W mr Γb Γ t gNever Γ' := fun F H σ ρ L Dn hs r k => k.elim
def gIfS (c : GT) (f g : GS) : GS := fun ρ => match c ρ with
  | .ok b => if b = true then f ρ else g ρ
  | .ex c d => .ex c d
  | .stuck => .stuck
theorem ss_if {c : TT} {t u : TS} {gc : GT} {f g : GS} (hc : ST C W Γ c gc) (h1 : SS C W mr Γb Γ t f Γ') (h2 : SS C W mr Γb Γ u g Γ') : SS C W mr Γb Γ (tIfS c t u) (gIfS gc f g) Γ' := by
  intro F H σ ρ L Dn hs r k
  show c σ H fun b H1 => if b = true then t Dn σ H1 else u Dn σ H1
  refine hc F H σ ρ L _ hs.ok r ?_
  unfold gIfS at k
  revert k
  cases gc ρ with
  | ok b =>
    intro k F1 H1 s1 s2 r1
    cases b with
    | true => exact h1 F1 H1 σ ρ L Dn hs r1 (k.mono s1)
    | false => exact h2 F1 H1 σ ρ L Dn hs r1 (k.mono s1)
  | ex c d => exact fun k F1 H1 s1 s2 f1 => k F1 H1 s1 f1
  | stuck => exact fun k => k
def gDrop (g : GX) : GS := fun ρ => match g ρ with
  | .ok (_, ρ') => .nx ρ'
  | .ex c d => .ex c d
  | .stuck => .stuck
theorem ss_expr {t : TE} {g : GX} (h : SX C W Γ t g m) : SS C W mr Γb Γ (tDrop t) (gDrop g) Γ := by
  intro F H σ ρ L Dn hs r k
  show t σ H fun _ H1 => Dn.nx σ H1
  refine h F H σ ρ L _ hs r ?_
  unfold gDrop at k
  revert k
  cases g ρ with
  | ok p => exact fun k F1 H1 v s1 r1 => k F1 H1 σ s1 r1.tail
  | ex c d => exact fun k => k
  | stuck => exact fun k => k
def gRet (g : GX) : GS := fun ρ => match g ρ with
  | .ok (d, ρ') => .rt d ρ'
  | .ex c d => .ex c d
  | .stuck => .stuck
theorem ss_ret {t : TE} {g : GX} (h : SX C W Γ t g mr) : SS C W mr Γb Γ (tRet t) (gRet g) Γ' := by
  intro F H σ ρ L Dn hs r k
  show t σ H Dn.rt
  refine h F H σ ρ L _ hs r ?_
  unfold gRet at k
  revert k
  cases g ρ with
  | ok p => exact fun k F1 H1 v s1 r1 => k F1 H1 Γ σ L v s1 r1
  | ex c d => exact fun k => k
  | stuck => exact fun k => k
def gRetN : GS := fun ρ => .rt .non ρ
theorem ss_retN (q : mr.rd = true := by rfl) : SS C W mr Γb Γ tRetN gRetN Γ' := fun F H σ ρ L Dn hs r k => k F H Γ σ L .non (Same.refl _) (r.cons0 (At.flat q rfl))

/-! ### targets of names -/
def gtName (i : Nat) : GG := fun d ρ => .ok (ρ.set i (some d))
theorem wipe_set (σ : L2.St) (i : Nat) (x : Option V) : ∀ vs : List Nat, i ∈ vs → wipe (σ.set i x) vs = wipe σ vs
  | [], h => by cases h
  | w :: vs, h => by
    show (wipe (σ.set i x) vs).set w none = (wipe σ vs).set w none
    by_cases e : i ∈ vs
    · rw [wipe_set σ i x vs e]
    · have hw : i = w := by
        rcases List.mem_cons.mp h with h | h
        · exact h
        · exact absurd h e
      subst hw
      clear h
      have key : ∀ vs : List Nat, i ∉ vs → wipe (σ.set i x) vs = (wipe σ vs).set i x := by
        intro vs
        induction vs with
        | nil => intro _; rfl
        | cons u vs ih =>
          intro hn
          show (wipe (σ.set i x) vs).set u none = ((wipe σ vs).set u none).set i x
          rw [ih fun z => hn (List.mem_cons_of_mem _ z)]
          have : i ≠ u := fun z => hn (z ▸ List.mem_cons_self)
          exact List.set_comm _ _ this
      rw [key vs e, set_set']
theorem sn_name {i : Nat} (e : Γ[i]? = some m) (hio : ∀ p ∈ C.io, p.1 ≠ i) : SN C Γ (L2.gName i) (gtName i) m [i] := by
  intro F H σ ρ L d v ρ' Q r h k
  cases h
  have l : i < Γ.length := (List.getElem?_eq_some_iff.mp e).1
  have r1 := r.put l hio
  rw [set_id e] at r1
  exact k _ (fun vs hv => wipe_set σ i _ vs (hv i List.mem_cons_self)) r1
def setAll : List Nat → List DV → EnvD → EnvD
  | i :: is, d :: ds, ρ => setAll is ds (ρ.set i (some d))
  | _, _, ρ => ρ
def gtTup (is : List Nat) : GG := fun d ρ => match d with
  | .tup ds => if ds.length = is.length then .ok (setAll is ds ρ) else .stuck
  | _ => .stuck
/-- the names of a tuple's target, one after the other -/
inductive Names : List Nat → TGs → Prop
  | nil : Names [] L2.gNil
  | cons {i : Nat} {is : List Nat} {t : TGs} : Names is t → Names (i :: is) (L2.gCons (L2.gName i) t)
theorem sn_tup {is : List Nat} {t : TGs} (hn : Names is t) (hm : ∀ i ∈ is, Γ[i]? = some m.kid) (hio : ∀ p ∈ C.io, ∀ i ∈ is, p.1 ≠ i) (q : m.ixok = true := by rfl) : SN C Γ (L2.gTup C.K is.length t) (gtTup is) m is := by
  intro F H σ ρ L d v ρ' Q r h k
  cases d with
  | tup ds =>
    obtain ⟨a, vs, h1, h2, h3⟩ := r.parts q
    have h : (if ds.length = is.length then Rs.ok (setAll is ds ρ) else .stuck) = .ok ρ' := h
    split at h
    · rename_i hl
      cases h
      refine ⟨a, vs, h1, h2, by rw [← h3.length]; exact hl, ?_⟩
      have r1 := r.tail
      clear h1 h2 r
      have key : ∀ {is : List Nat} {t : TGs}, Names is t → (∀ i ∈ is, Γ[i]? = some m.kid) → (∀ p ∈ C.io, ∀ i ∈ is, p.1 ≠ i) → ∀ {ds : List DV} {vs : List V} {σ : L2.St} {ρ : EnvD}, ds.length = is.length → Alls (At C F H m.kid) ds vs [] → Rep C F H Γ σ ρ L →
          (∀ σ', (∀ ws : List Nat, (∀ i ∈ is, i ∈ ws) → wipe σ' ws = wipe σ ws) → Rep C F H Γ σ' (setAll is ds ρ) L → Q σ' H) → t vs σ H Q := by
        intro is t hn
        induction hn with
        | nil =>
          intro _ _ ds vs σ ρ hl ha r k
          cases ds with
          | cons d ds => cases hl
          | nil => exact ⟨ha.1, k σ (fun _ _ => rfl) r⟩
        | cons hn ih =>
          rename_i i is t
          intro hm hio ds vs σ ρ hl ha r k
          cases ds with
          | nil => cases hl
          | cons d ds =>
            obtain ⟨w, ws, f1, f2, e1, e2, e3, e4⟩ := ha
            obtain ⟨z1, z2⟩ := List.append_eq_nil_iff.mp e2.symm
            subst z1
            subst z2
            refine ⟨w, ws, e1, ?_⟩
            have ei := hm i List.mem_cons_self
            have l : i < Γ.length := (List.getElem?_eq_some_iff.mp ei).1
            have r2 := (r.cons0 e3).put l fun p hp => hio p hp i List.mem_cons_self
            rw [set_id ei] at r2
            refine ih (fun j hj => hm j (List.mem_cons_of_mem _ hj)) (fun p hp j hj => hio p hp j (List.mem_cons_of_mem _ hj)) (by simpa using hl) e4 r2 fun σ' hw r3 => ?_
            refine k σ' (fun us hu => ?_) r3
            rw [hw us fun j hj => hu j (List.mem_cons_of_mem _ hj)]
            exact wipe_set σ i _ us (hu i List.mem_cons_self)
      exact key hn hm hio hl h3 r1 k
    · cases h
  | _ => cases h
/-! ### x = e -/
def gAsg (g : GX) (tg : GG) : GS := fun ρ => match g ρ with
  | .ok (d, ρ') => (match tg d ρ' with
    | .ok ρ2 => .nx ρ2
    | .ex c d => .ex c d
    | .stuck => .stuck)
  | .ex c d => .ex c d
  | .stuck => .stuck
theorem ss_asg {te : TE} {g : GX} {tg : TG} {gg : GG} {is : List Nat} (h : SX C W Γ te g m) (hg : SN C Γ tg gg m is) (hx : ∀ d ρ c e, gg d ρ ≠ .ex c e) : SS C W mr Γb Γ (tAsg te tg) (gAsg g gg) Γ := by
  intro F H σ ρ L Dn hs r k
  show te σ H fun x H1 => tg x σ H1 Dn.nx
  refine h F H σ ρ L _ hs r ?_
  unfold gAsg at k
  revert k
  cases g ρ with
  | ok p =>
    obtain ⟨d, ρ'⟩ := p
    intro k F1 H1 v s1 r1
    have k : PS' C W mr Γb Γ F H L Dn (match gg d ρ' with | .ok ρ2 => .nx ρ2 | .ex c d => .ex c d | .stuck => .stuck) := k
    cases e : gg d ρ' with
    | ok ρ2 =>
      rw [e] at k
      exact hg F1 H1 σ ρ' L d v ρ2 _ r1 e fun σ' _ r2 => k F1 H1 σ' s1 r2
    | ex c d => exact absurd e (hx _ _ _ _)
    | stuck => rw [e] at k; exact k.elim
  | ex c d => exact fun k => k
  | stuck => exact fun k => k
theorem nx_name {i : Nat} : ∀ d ρ c e, gtName i d ρ ≠ .ex c e := fun _ _ _ _ h => by cases h
theorem nx_tup {is : List Nat} : ∀ d ρ c e, gtTup is d ρ ≠ .ex c e := fun d _ _ _ h => by
  cases d with
  | tup ds =>
    have h : (if ds.length = is.length then Rs.ok _ else .stuck) = Rs.ex _ _ := h
    split at h <;> cases h
  | _ => cases h
theorem ss_set {i : Nat} {te : TE} {g : GX} (h : SX C W Γ te g m) (l : i < Γ.length) (hio : ∀ p ∈ C.io, p.1 ≠ i) : SS C W mr Γb Γ (tAsg te (gName i)) (gAsg g (gtName i)) (Γ.set i m) := by
  intro F H σ ρ L Dn hs r k
  show te σ H fun x H1 => Dn.nx (σ.set i (some x)) H1
  refine h F H σ ρ L _ hs r ?_
  unfold gAsg at k
  revert k
  cases g ρ with
  | ok p => exact fun k F1 H1 v s1 r1 => k F1 H1 _ s1 (r1.put l hio)
  | ex c d => exact fun k => k
  | stuck => exact fun k => k
/-- the modes of slots that hold nothing may be any -/
theorem ss_mode {i : Nat} {t : TS} {g : GS} (h : SS C W mr Γb (Γ.set i m) t g Γ') (l : i < Γ.length) (hio : ∀ p ∈ C.io, p.1 ≠ i) : SS C W mr Γb Γ t (fun ρ => g (ρ.set i none)) Γ' := by
  intro F H σ ρ L Dn hs r k
  refine h F H σ (ρ.set i none) L Dn hs ?_ k
  obtain ⟨f1, f2, nd, a, b⟩ := r.own
  have key : ∀ {Γ : List Md} {σ : L2.St} {ρ : EnvD} {fp : List Addr} {i : Nat}, Slots C F H Γ σ ρ fp → ∃ x y z, fp = x ++ (y ++ z) ∧ Slots C F H (Γ.set i m) σ (ρ.set i none) (x ++ z) := by
    intro Γ
    induction Γ with
    | nil =>
      intro σ ρ fp i h
      cases σ <;> cases ρ <;> first | exact ⟨[], [], [], h, rfl⟩ | exact h.elim
    | cons m1 Γ ih =>
      intro σ ρ fp i h
      cases σ with
      | nil => cases ρ <;> exact h.elim
      | cons s1 σ =>
        cases ρ with
        | nil => exact h.elim
        | cons r1 ρ =>
          obtain ⟨f1, f2, h1, h2, h3⟩ := h
          cases i with
          | zero => exact ⟨[], f1, f2, h1, [], f2, rfl, rfl, h3⟩
          | succ i =>
            obtain ⟨x, y, z, h4, h5⟩ := ih (i := i) h3
            exact ⟨f1 ++ x, y, z, by rw [h1, h4, List.append_assoc], f1, x ++ z, by rw [List.append_assoc], h2, h5⟩
  obtain ⟨x, y, z, h4, h5⟩ := key (i := i) a
  subst h4
  refine ⟨r.fit, fun p hp => ?_, x ++ z, f2, nd.sublist (List.Sublist.append (List.Sublist.append (List.Sublist.refl _) (List.sublist_append_right _ _)) (List.Sublist.refl _)), h5, b⟩
  rw [List.getElem?_set_ne (Ne.symm (hio p hp))]
  exact r.io p hp

/-! ### while -/
def whileG (c : GT) (b : GS) : Nat → GS
  | 0, _ => .stuck
  | n + 1, ρ => match c ρ with
    | .ok true => (match b ρ with
      | .nx ρ' => whileG c b n ρ'
      | .ct ρ' => whileG c b n ρ'
      | .bk ρ' => .nx ρ'
      | o => o)
    | .ok false => .nx ρ
    | .ex c d => .ex c d
    | .stuck => .stuck
def fuelW : Nat := 1099511627776
def gWhile (c : GT) (b : GS) : GS := whileG c b fuelW
theorem whileG_mono {c : GT} {b : GS} : ∀ {n k : Nat} {ρ : EnvD} {o : Out}, n ≤ k → whileG c b n ρ = o → o ≠ .stuck → whileG c b k ρ = o
  | 0, _, _, _, _, h, hn => absurd h.symm hn
  | n + 1, 0, _, _, h, _, _ => absurd h (Nat.not_succ_le_zero _)
  | n + 1, k + 1, ρ, o, h, e, hn => by
    unfold whileG at e ⊢
    split at e
    · split at e
      · exact whileG_mono (Nat.le_of_succ_le_succ h) e hn
      · exact whileG_mono (Nat.le_of_succ_le_succ h) e hn
      · exact e
      · exact e
    · exact e
    · exact e
    · exact e
theorem gWhile_of {c : GT} {b : GS} {n : Nat} {ρ : EnvD} {o : Out} (h : n ≤ fuelW) (e : whileG c b n ρ = o) (hn : o ≠ .stuck) : gWhile c b ρ = o := whileG_mono h e hn
theorem ss_while {c : TT} {tb : TS} {gc : GT} {gb : GS} (hc : ST C W Γ c gc) (hb : SS C W mr Γ Γ tb gb Γ) : SS C W mr Γb Γ (tWhile c tb) (gWhile gc gb) Γ := by
  intro F H σ ρ L Dn hs r k
  refine ⟨fun n σ H => ∃ F' ρ', Same F F' ∧ Rep C F' H Γ σ ρ' L ∧ PS' C W mr Γb Γ F' H L Dn (whileG gc gb n ρ'), ⟨fuelW, F, ρ, Same.refl _, r, k⟩, fun n σ H hW => ?_⟩
  obtain ⟨F1, ρ1, s1, r1, k1⟩ := hW
  cases n with
  | zero => exact k1.elim
  | succ n =>
    refine hc F1 H σ ρ1 L _ hs.ok r1 ?_
    unfold whileG at k1
    revert k1
    cases gc ρ1 with
    | ok b =>
      intro k1 F2 H2 s2 s3 r2
      cases b with
      | false =>
        show Dn.nx σ H2
        exact k1 F2 H2 σ s2 r2
      | true =>
        show ∃ N : L2.St → Hp → Prop, _
        refine ⟨fun σ' H' => ∃ F' ρ', Same F F' ∧ Rep C F' H' Γ σ' ρ' L ∧ PS' C W mr Γb Γ F' H' L Dn (whileG gc gb n ρ'), fun σ' H' h => ⟨n, Nat.lt_succ_self _, h⟩, ?_⟩
        refine hb F2 H2 σ ρ1 L _ hs r2 ?_
        revert k1
        cases gb ρ1 with
        | nx ρ' => exact fun k F3 H3 σ3 s4 r3 => ⟨F3, ρ', s1.trans (s2.trans s4), r3, PS'.mono k (s2.trans s4)⟩
        | ct ρ' => exact fun k F3 H3 σ3 s4 r3 => ⟨F3, ρ', s1.trans (s2.trans s4), r3, PS'.mono k (s2.trans s4)⟩
        | bk ρ' => exact fun k F3 H3 σ3 s4 r3 => k F3 H3 σ3 (s2.trans s4) r3
        | rt d ρ' => exact fun k F3 H3 Γr σ3 L3 v s4 r3 => k F3 H3 Γr σ3 L3 v (s2.trans s4) r3
        | ex c d => exact fun k F3 H3 s4 f => k F3 H3 (s2.trans s4) f
        | stuck => exact fun k => k
    | ex c d => exact fun k1 F2 H2 s2 s3 f => k1 F2 H2 s2 f
    | stuck => exact fun k1 => k1

/-! ### what is walked -/
/-- the turns of J give the items, in the mode m, while the entries E stand -/
def Walk (C : Cxt) (J : It) (its : List DV) (m : Md) (E : List Ent) : Prop :=
  ∀ (i : Nat) F H Γ σ ρ L, Rep C F H Γ σ ρ (E ++ L) → (its.length ≤ i → J.stop i H) ∧
    ∀ d, its[i]? = some d → J.go i H ∧ ∀ x H', J.yld i H x H' → ∃ F', Same F F' ∧ Same H H' ∧ Rep C F' H' Γ σ ρ ((m, d, x) :: (E ++ L))
abbrev GI := EnvD → Rs (List DV)
def PI' (C : Cxt) (W : Wx) (Γ : List Md) (F H : Hp) (σ : L2.St) (ρ : EnvD) (L : List Ent) (m : Md) (st : Bool) (R : It → Hp → Prop) : Rs (List DV) → Prop
  | .ok its => ∀ F' H' J E, Same F F' → Same H H' → (st = true → storL E) → (∀ e ∈ E, e.1.free = true ∧ At C F' H' e.1 e.2.1 e.2.2 []) → Rep C F' H' Γ σ ρ (E ++ L) → Walk C J its m E → R J H'
  | .ex c d => ∀ F' H', Same F F' → Same H H' → Fit C F' H' → W c d H'
  | .stuck => False
def SI (C : Cxt) (W : Wx) (Γ : List Md) (wi : TI) (gi : GI) (m : Md) (st : Bool) : Prop :=
  ∀ F H σ ρ L R, okL L → Rep C F H Γ σ ρ L → PI' C W Γ F H σ ρ L m st R (gi ρ) → wi σ H R
theorem storL_app {E L : List Ent} (h1 : storL E) (h2 : storL L) : storL (E ++ L) := by
  show (E ++ L).all _ = true
  rw [List.all_append, h1, h2]
  rfl
theorem Rep.dropE : ∀ {E : List Ent}, Rep C F H Γ σ ρ (E ++ L) → Rep C F H Γ σ ρ L
  | [], r => r
  | _ :: E, r => Rep.dropE (E := E) r.tail
def forG (tg : GG) (b : GS) : List DV → GS
  | [], ρ => .nx ρ
  | d :: ds, ρ => match tg d ρ with
    | .ok ρ1 => (match b ρ1 with
      | .nx ρ2 => forG tg b ds ρ2
      | .ct ρ2 => forG tg b ds ρ2
      | .bk ρ2 => .nx ρ2
      | o => o)
    | .ex c d => .ex c d
    | .stuck => .stuck
def gFor (gi : GI) (tg : GG) (b : GS) : GS := fun ρ => match gi ρ with
  | .ok its => forG tg b its ρ
  | .ex c d => .ex c d
  | .stuck => .stuck
theorem ss_for {wi : TI} {gi : GI} {g : TG} {tg : GG} {tb : TS} {gb : GS} {is : List Nat} (hi : SI C W Γ wi gi m true) (hg : SN C Γ g tg m is) (hx : ∀ d ρ c e, tg d ρ ≠ .ex c e) (hb : SS C W mr Γ Γ tb gb Γ) : SS C W mr Γb Γ (tFor wi g tb) (gFor gi tg gb) Γ := by
  intro F H σ ρ L Dn hs r k
  refine hi F H σ ρ L _ hs.ok r ?_
  unfold gFor at k
  revert k
  cases gi ρ with
  | ex c d => exact fun k F2 H2 s2 s3 f => k F2 H2 s2 f
  | stuck => exact fun k => k
  | ok its =>
    intro k F1 H1 J E s1 s2 hE hA r1 w
    refine ⟨fun i n σ H => i + n = its.length ∧ ∃ F' ρ', Same F F' ∧ Rep C F' H Γ σ ρ' (E ++ L) ∧ PS' C W mr Γb Γ F' H L Dn (forG tg gb (its.drop i) ρ'), ⟨its.length, by omega, F1, ρ, s1, r1, PS'.mono k s1⟩, fun i n σ H hW => ?_⟩
    obtain ⟨en, F2, ρ2, s3, r2, k2⟩ := hW
    obtain ⟨w1, w2⟩ := w i F2 H Γ σ ρ2 L r2
    cases e : its[i]? with
    | none =>
      have hl := List.getElem?_eq_none_iff.mp e
      rw [List.drop_of_length_le hl] at k2
      exact .inl ⟨w1 hl, k2 F2 H σ (Same.refl _) r2.dropE⟩
    | some d =>
      have hl := (List.getElem?_eq_some_iff.mp e).1
      have ed : its.drop i = d :: its.drop (i + 1) := by
        rw [List.drop_eq_getElem_cons hl, (List.getElem?_eq_some_iff.mp e).2]
      rw [ed] at k2
      obtain ⟨w3, w4⟩ := w2 d e
      refine .inr ⟨w3, fun σ' H' => ∃ F' ρ', Same F F' ∧ Rep C F' H' Γ σ' ρ' (E ++ L) ∧ PS' C W mr Γb Γ F' H' L Dn (forG tg gb (its.drop (i + 1)) ρ'), fun σ' H' h => ⟨n - 1, by omega, by omega, h⟩, fun x H' hy => ?_⟩
      obtain ⟨F3, s4, s5, r3⟩ := w4 x H' hy
      unfold forG at k2
      cases et : tg d ρ2 with
      | ex c d => exact absurd et (hx _ _ _ _)
      | stuck => rw [et] at k2; exact k2.elim
      | ok ρ3 =>
        rw [et] at k2
        refine hg F3 H' σ ρ2 (E ++ L) d x ρ3 _ r3 et fun σ' _ r4 => ?_
        refine hb F3 H' σ' ρ3 (E ++ L) _ (storL_app (hE rfl) hs) r4 ?_
        revert k2
        show PS' C W mr Γb Γ F2 H L Dn (match gb ρ3 with | .nx ρ2 => forG tg gb (its.drop (i + 1)) ρ2 | .ct ρ2 => forG tg gb (its.drop (i + 1)) ρ2 | .bk ρ2 => .nx ρ2 | o => o) → _
        cases gb ρ3 with
        | nx ρ' => exact fun k F4 H4 σ4 s6 r5 => ⟨F4, ρ', s3.trans (s4.trans s6), r5, PS'.mono k (s4.trans s6)⟩
        | ct ρ' => exact fun k F4 H4 σ4 s6 r5 => ⟨F4, ρ', s3.trans (s4.trans s6), r5, PS'.mono k (s4.trans s6)⟩
        | bk ρ' => exact fun k F4 H4 σ4 s6 r5 => k F4 H4 σ4 (s4.trans s6) r5.dropE
        | rt d ρ' => exact fun k F4 H4 Γr σ4 L4 v s6 r5 => k F4 H4 Γr σ4 L4 v (s4.trans s6) r5
        | ex c d => exact fun k F4 H4 s6 f => k F4 H4 (s4.trans s6) f
        | stuck => exact fun k => k
end
end DL
end

/-! text DL8 -/
section
set_option maxRecDepth 100000
set_option maxHeartbeats 4000000
/-! the data layer, part 8: what is walked, comprehensions -/
namespace DL
open PySem PySem.Spec PyProof.Rows L2
section
variable {C : Cxt} {W : Wx} {F F' H H' : Hp} {Γ : List Md} {σ : L2.St} {ρ : EnvD} {L : List Ent} {m ma mb mr : Md} {d : DV} {v : V} {st : Bool}
theorem ixok_free : ∀ {m : Md}, m.ixok = true → m.free = true
  | .fr, _ => rfl
  | .bo, _ => rfl
  | .sc, _ => rfl
  | .pk m, h => fo_free m h
  | .tu m, h => fo_free m h
  | .po m, h => fo_free m h
where fo_free : ∀ (m : Md), m.fo = true → m.free = true
  | .fr, _ => rfl
  | .pk m, h => fo_free m h
  | .tu m, h => fo_free m h
  | .po m, h => fo_free m h
def seqOf : DV → Rs (List DV)
  | .lst ds => .ok ds
  | .tup ds => .ok ds
  | _ => .stuck
def gSeqI (g : GE) : GI := fun ρ => (g ρ).bind seqOf
/-- a list or a tuple -/
def iSeq (K : PySem.W.Frag) (tl : TE) : TI := fun σ H R => iList K tl σ H R ∨ iTup K tl σ H R
theorem pi_seq {X : Cx} {tg l : Expr} {tl : TE} (hl : PE X l tl) : PI X tg l (iSeq X.K tl) :=
  ⟨fun pins s σ H R I h => h.elim (fun h => (pi_list hl).run pins s σ H R I h) fun h => (pi_tup hl).run pins s σ H R I h⟩
theorem si_seq {t : TE} {g : GE} (h : SE C W Γ t g m) (q : m.ixok = true := by rfl) (hs : st = true → m.stor = true := by exact fun _ => rfl) : SI C W Γ (iSeq C.K t) (gSeqI g) m.kid st := by
  intro F H σ ρ L R hL r k
  unfold gSeqI at k
  have key : ∀ d, g ρ = .ok d → (∀ ds, d = .lst ds → iList C.K t σ H R) ∧ (∀ ds, d = .tup ds → iTup C.K t σ H R) := by
    intro d e
    constructor
    · intro ds ed
      subst ed
      rw [e] at k
      refine h F H σ ρ L _ hL r ?_
      rw [e]
      intro F1 H1 x s1 s2 r1
      obtain ⟨a, vs, h1, h2, h3⟩ := r1.items q
      refine ⟨a, h1, ⟨vs, h2.1⟩, ?_⟩
      refine k F1 H1 (Itl C.K a) [(m, .lst ds, x)] s1 s2 (fun z => storL_cons (hs z) rfl) (fun e he => ?_) r1 ?_
      · obtain rfl := List.mem_singleton.mp he
        exact ⟨ixok_free q, r1.free (ixok_free q)⟩
      · intro i F2 H2 Γ2 σ2 ρ2 L2 r2
        obtain ⟨a2, vs2, g1, g2, g3⟩ := Rep.items (L := L2) r2 q
        have ea : a2 = a := by
          rw [h1] at g1
          cases g1
          rfl
        subst ea
        refine ⟨fun hl => ⟨vs2, g2.1, by rw [← g3.length]; exact hl⟩, fun d hd => ?_⟩
        obtain ⟨w, e1, e2⟩ := g3.nil_get hd
        refine ⟨⟨vs2, w, g2.1, e1⟩, fun y H' hy => ?_⟩
        obtain ⟨rfl, hy⟩ := hy
        have ey : y = w := Option.some.inj ((hy vs2 g2.1).symm.trans e1)
        subst ey
        exact ⟨F2, Same.refl _, Same.refl _, r2.cons0 e2⟩
    · intro ds ed
      subst ed
      rw [e] at k
      refine h F H σ ρ L _ hL r ?_
      rw [e]
      intro F1 H1 x s1 s2 r1
      obtain ⟨a, vs, h1, h2, h3⟩ := r1.parts q
      refine ⟨a, h1, ⟨vs, h2⟩, ?_⟩
      refine k F1 H1 (Itt C.K a) [(m, .tup ds, x)] s1 s2 (fun z => storL_cons (hs z) rfl) (fun e he => ?_) r1 ?_
      · obtain rfl := List.mem_singleton.mp he
        exact ⟨ixok_free q, r1.free (ixok_free q)⟩
      · intro i F2 H2 Γ2 σ2 ρ2 L2 r2
        obtain ⟨a2, vs2, g1, g2, g3⟩ := Rep.parts (L := L2) r2 q
        have ea : a2 = a := by
          rw [h1] at g1
          cases g1
          rfl
        subst ea
        refine ⟨fun hl => ⟨vs2, g2, by rw [← g3.length]; exact hl⟩, fun d hd => ?_⟩
        obtain ⟨w, e1, e2⟩ := g3.nil_get hd
        refine ⟨⟨vs2, w, g2, e1⟩, fun y H' hy => ?_⟩
        obtain ⟨rfl, hy⟩ := hy
        have ey : y = w := Option.some.inj ((hy vs2 g2).symm.trans e1)
        subst ey
        exact ⟨F2, Same.refl _, Same.refl _, r2.cons0 e2⟩
  cases e : g ρ with
  | ok d =>
    cases d with
    | lst ds => exact .inl ((key _ e).1 ds rfl)
    | tup ds => exact .inr ((key _ e).2 ds rfl)
    | _ => rw [e] at k; exact k.elim
  | ex c d =>
    refine .inl (h F H σ ρ L _ hL r ?_)
    rw [e] at k ⊢
    exact k
  | stuck => rw [e] at k; exact k.elim

/-! ranges -/
def rngD (lo : Int) (n : Nat) : List DV := (List.range n).map fun k : Nat => DV.int (lo + (k : Int))
def rngOk (j : Int) : Bool := decide (-(2 ^ 62) ≤ j) && decide (j < 2 ^ 62)
theorem rngOk_ok {j : Int} (h : rngOk j = true) : -(2 ^ 62) ≤ j ∧ j < 2 ^ 62 := by
  obtain ⟨h1, h2⟩ := (Bool.and_eq_true _ _).mp h
  exact ⟨of_decide_eq_true h1, of_decide_eq_true h2⟩
def dRng1 : List DV → Rs (List DV)
  | [.int j] => if rngOk j = true then .ok (rngD 0 j.toNat) else .stuck
  | _ => .stuck
def dRng2 : List DV → Rs (List DV)
  | [.int i, .int j] => if (rngOk i && rngOk j) = true then .ok (rngD i (j - i).toNat) else .stuck
  | _ => .stuck
def gRng1 (g : GA) : GI := fun ρ => (g ρ).bind dRng1
def gRng2 (g : GA) : GI := fun ρ => (g ρ).bind dRng2
theorem walk_rng {lo : Int} {n : Nat} : Walk C (Itr lo n) (rngD lo n) .fr [] := by
  intro i F H Γ σ ρ L r
  have hl : (rngD lo n).length = n := by unfold rngD; rw [List.length_map, List.length_range]
  refine ⟨fun h => by rw [hl] at h; exact h, fun d hd => ?_⟩
  have h1 := (List.getElem?_eq_some_iff.mp hd).1
  rw [hl] at h1
  have h2 : d = .int (lo + (i : Int)) := by
    unfold rngD at hd
    rw [List.getElem?_map, List.getElem?_range h1] at hd
    exact (Option.some.inj hd).symm
  subst h2
  refine ⟨h1, fun x H' hy => ?_⟩
  obtain ⟨rfl, rfl⟩ := hy
  exact ⟨F, Same.refl _, Same.refl _, r.cons0 ⟨rfl, rfl⟩⟩
theorem si_rng1 {t : TA} {g : GA} (h : SA C W Γ t g [ma]) (q : ma.rd = true := by rfl) : SI C W Γ (iRng1 t) (gRng1 g) .fr st := by
  intro F H σ ρ L R hL r k
  show t σ H fun vs H1 => ∃ j : Int, vs = [.int j] ∧ -(2 ^ 62) ≤ j ∧ j < 2 ^ 62 ∧ R (Itr 0 j.toNat) H1
  refine h F H σ ρ L _ hL r ?_
  unfold gRng1 at k
  revert k
  cases g ρ with
  | ex c d => exact fun k => k
  | stuck => exact fun k => k
  | ok ds =>
    intro k F1 H1 vs s1 s2 e1 e2 r1
    match vs, ds, e1, e2, r1, k with
    | [x], [dx], _, _, r1, k =>
      have hd := Rep.da (L := L) r1 q
      cases dx with
      | int j =>
        have k : PI' C W Γ F H σ ρ L .fr st R (if rngOk j = true then .ok (rngD 0 j.toNat) else .stuck) := k
        split at k
        · rename_i hz
          obtain ⟨z1, z2⟩ := rngOk_ok hz
          have hx : x = .int j := hd
          exact ⟨j, by rw [hx], z1, z2, k F1 H1 _ [] s1 s2 (fun _ => rfl) (fun e he => by cases he) (Rep.tail (L := L) r1) walk_rng⟩
        · exact k.elim
      | _ => exact k.elim
theorem si_rng2 {t : TA} {g : GA} (h : SA C W Γ t g [ma, mb]) (qa : ma.rd = true := by rfl) (qb : mb.rd = true := by rfl) : SI C W Γ (iRng2 t) (gRng2 g) .fr st := by
  intro F H σ ρ L R hL r k
  show t σ H fun vs H1 => ∃ i j : Int, vs = [.int i, .int j] ∧ (-(2 ^ 62) ≤ i ∧ i < 2 ^ 62 ∧ -(2 ^ 62) ≤ j ∧ j < 2 ^ 62) ∧ R (Itr i (j - i).toNat) H1
  refine h F H σ ρ L _ hL r ?_
  unfold gRng2 at k
  revert k
  cases g ρ with
  | ex c d => exact fun k => k
  | stuck => exact fun k => k
  | ok ds =>
    intro k F1 H1 vs s1 s2 e1 e2 r1
    match vs, ds, e1, e2, r1, k with
    | [x, y], [dx, dy], _, _, r1, k =>
      obtain ⟨hd1, hd2⟩ := Rep.da2 (L := L) r1 qa qb
      cases dx with
      | int i =>
        cases dy with
        | int j =>
          have k : PI' C W Γ F H σ ρ L .fr st R (if (rngOk i && rngOk j) = true then .ok (rngD i (j - i).toNat) else .stuck) := k
          split at k
          · rename_i hz
            obtain ⟨y1, y2⟩ := (Bool.and_eq_true _ _).mp hz
            obtain ⟨z1, z2⟩ := rngOk_ok y1
            obtain ⟨z3, z4⟩ := rngOk_ok y2
            have hx : x = .int i := hd1
            have hy : y = .int j := hd2
            exact ⟨i, j, by rw [hx, hy], ⟨z1, z2, z3, z4⟩, k F1 H1 _ [] s1 s2 (fun _ => rfl) (fun e he => by cases he) (Rep.tail (L := L) (Rep.tail (L := _ :: L) r1)) walk_rng⟩
          · exact k.elim
        | _ => exact k.elim
      | _ => cases dy <;> exact k.elim

/-! ### slots wiped and laid back -/
def wipeD (ρ : EnvD) : List Nat → EnvD
  | [] => ρ
  | v :: vs => (wipeD ρ vs).set v none
theorem Slots.sig : ∀ {Γ : List Md} {σ : L2.St} {ρ : EnvD} {fp : List Addr} {i : Nat} (s : Option V), Slots C F H Γ σ ρ fp → ρ[i]? = some none → Slots C F H Γ (σ.set i s) ρ fp
  | [], [], [], _, i, s, h, _ => h
  | m1 :: Γ, s1 :: σ, r :: ρ, _, 0, s, ⟨f1, f2, h1, h2, h3⟩, e => by
    have e : r = none := by simpa using e
    subst e
    exact ⟨f1, f2, h1, h2, h3⟩
  | m1 :: Γ, s1 :: σ, r :: ρ, _, i + 1, s, ⟨f1, f2, h1, h2, h3⟩, e => ⟨f1, f2, h1, h2, Slots.sig s h3 (by simpa using e)⟩
theorem Rep.sig {i : Nat} (s : Option V) (r : Rep C F H Γ σ ρ L) (e : ρ[i]? = some none) (hio : ∀ p ∈ C.io, p.1 ≠ i) : Rep C F H Γ (σ.set i s) ρ L := by
  obtain ⟨f1, f2, nd, a, b⟩ := r.own
  refine ⟨r.fit, fun p hp => ?_, f1, f2, nd, a.sig s e, b⟩
  rw [List.getElem?_set_ne (Ne.symm (hio p hp))]
  exact r.io p hp
theorem Rep.wipe1 {i : Nat} (r : Rep C F H Γ σ ρ L) (hΓ : Γ.all Md.stor = true) (hio : ∀ p ∈ C.io, p.1 ≠ i) : ∃ S : List Ent, storL S ∧ Rep C F H Γ (σ.set i none) (ρ.set i none) (S ++ L) ∧
    ∀ F' H' L', Rep C F' H' Γ (σ.set i none) (ρ.set i none) (S ++ L') → Rep C F' H' Γ σ ρ L' := by
  obtain ⟨f1, f2, nd, a, b⟩ := id r.own
  obtain ⟨l1, l2⟩ := a.len
  cases e : ρ[i]? with
  | none =>
    have hl := List.getElem?_eq_none_iff.mp e
    have e1 : ρ.set i none = ρ := List.set_eq_of_length_le hl
    have e2 : σ.set i none = σ := List.set_eq_of_length_le (by rw [l1, ← l2]; exact hl)
    rw [e1, e2]
    exact ⟨[], rfl, r, fun F' H' L' h => h⟩
  | some o =>
    cases o with
    | none =>
      have e1 : ρ.set i none = ρ := set_id e
      rw [e1]
      have hl := (List.getElem?_eq_some_iff.mp e).1
      refine ⟨[], rfl, r.sig none e hio, fun F' H' L' h => ?_⟩
      have h2 := Rep.sig (σ[i]'(by rw [l1, ← l2]; exact hl)) h e hio
      rw [set_set', set_id (List.getElem?_eq_getElem _)] at h2
      exact h2
    | some d =>
      have hl := (List.getElem?_eq_some_iff.mp e).1
      have hl2 : i < Γ.length := by rw [← l2]; exact hl
      have em := List.getElem?_eq_getElem hl2
      obtain ⟨v, h1, r1⟩ := r.take em e
      have en : (ρ.set i none)[i]? = some none := List.getElem?_set_self hl
      refine ⟨[(Γ[i], d, v)], storL_cons (List.all_eq_true.mp hΓ _ (List.getElem_mem hl2)) rfl, r1.sig none en hio, fun F' H' L' h => ?_⟩
      have h2 := Rep.sig (some v) h en hio
      rw [set_set', set_id h1] at h2
      have h3 := Rep.back (L := L') h2 h1 (.inl em)
      rw [set_set', set_id e, set_id em] at h3
      exact h3
theorem Rep.wipe : ∀ {vs : List Nat}, Rep C F H Γ σ ρ L → Γ.all Md.stor = true → (∀ p ∈ C.io, ∀ i ∈ vs, p.1 ≠ i) → ∃ S : List Ent, storL S ∧ Rep C F H Γ (L2.wipe σ vs) (wipeD ρ vs) (S ++ L) ∧
    ∀ F' H' L', Rep C F' H' Γ (L2.wipe σ vs) (wipeD ρ vs) (S ++ L') → Rep C F' H' Γ σ ρ L'
  | [], r, _, _ => ⟨[], rfl, r, fun F' H' L' h => h⟩
  | i :: vs, r, hΓ, hio => by
    obtain ⟨S, h1, h2, h3⟩ := Rep.wipe (vs := vs) r hΓ fun p hp j hj => hio p hp j (List.mem_cons_of_mem _ hj)
    obtain ⟨S2, g1, g2, g3⟩ := h2.wipe1 (i := i) hΓ fun p hp => hio p hp i List.mem_cons_self
    refine ⟨S2 ++ S, storL_app g1 h1, ?_, fun F' H' L' h => h3 F' H' L' (g3 F' H' _ ?_)⟩
    · rw [List.append_assoc]; exact g2
    · rw [← List.append_assoc]; exact h
/-- slots forgotten -/
theorem Rep.forget : ∀ {vs : List Nat}, Rep C F H Γ σ ρ L → (∀ p ∈ C.io, ∀ i ∈ vs, p.1 ≠ i) → Rep C F H Γ (L2.wipe σ vs) (wipeD ρ vs) L
  | [], r, _ => r
  | i :: vs, r, hio => by
    have h := Rep.forget (vs := vs) r fun p hp j hj => hio p hp j (List.mem_cons_of_mem _ hj)
    obtain ⟨f1, f2, nd, a, b⟩ := h.own
    obtain ⟨x, y, z, h4, h5⟩ := a.drop (i := i) none
    subst h4
    refine ⟨h.fit, fun p hp => ?_, x ++ z, f2, ?_, h5, b⟩
    · show ((L2.wipe σ vs).set i none)[p.1]? = _ ∧ _
      rw [List.getElem?_set_ne (Ne.symm (hio p hp i List.mem_cons_self))]
      exact h.io p hp
    · refine nd.sublist (List.Sublist.append ?_ (List.Sublist.refl _))
      exact List.Sublist.append (List.Sublist.refl _) (List.sublist_append_right _ _)
theorem wipe_idem (σ : L2.St) : ∀ vs : List Nat, L2.wipe (L2.wipe σ vs) vs = L2.wipe σ vs := by
  have key : ∀ (us vs : List Nat), (∀ i ∈ us, i ∈ vs) → L2.wipe (L2.wipe σ us) vs = L2.wipe σ vs := by
    intro us
    induction us with
    | nil => intro vs _; rfl
    | cons i us ih =>
      intro vs h
      show L2.wipe ((L2.wipe σ us).set i none) vs = _
      rw [wipe_set _ i none vs (h i List.mem_cons_self)]
      exact ih vs fun j hj => h j (List.mem_cons_of_mem _ hj)
  exact fun vs => key vs vs fun _ h => h
theorem wipeD_set (ρ : EnvD) (i : Nat) (x : Option DV) : ∀ vs : List Nat, i ∈ vs → wipeD (ρ.set i x) vs = wipeD ρ vs
  | [], h => by cases h
  | w :: vs, h => by
    show (wipeD (ρ.set i x) vs).set w none = (wipeD ρ vs).set w none
    by_cases e : i ∈ vs
    · rw [wipeD_set ρ i x vs e]
    · have hw : i = w := by
        rcases List.mem_cons.mp h with h | h
        · exact h
        · exact absurd h e
      subst hw
      clear h
      have key : ∀ vs : List Nat, i ∉ vs → wipeD (ρ.set i x) vs = (wipeD ρ vs).set i x := by
        intro vs
        induction vs with
        | nil => intro _; rfl
        | cons u vs ih =>
          intro hn
          show (wipeD (ρ.set i x) vs).set u none = ((wipeD ρ vs).set u none).set i x
          rw [ih fun z => hn (List.mem_cons_of_mem _ z)]
          have : i ≠ u := fun z => hn (z ▸ List.mem_cons_self)
          exact List.set_comm _ _ this
      rw [key vs e, set_set']
theorem wipeD_idem (ρ : EnvD) : ∀ vs : List Nat, wipeD (wipeD ρ vs) vs = wipeD ρ vs := by
  have key : ∀ (us vs : List Nat), (∀ i ∈ us, i ∈ vs) → wipeD (wipeD ρ us) vs = wipeD ρ vs := by
    intro us
    induction us with
    | nil => intro vs _; rfl
    | cons i us ih =>
      intro vs h
      show wipeD ((wipeD ρ us).set i none) vs = _
      rw [wipeD_set _ i none vs (h i List.mem_cons_self)]
      exact ih vs fun j hj => h j (List.mem_cons_of_mem _ hj)
  exact fun vs => key vs vs fun _ h => h
/-- this target stores within these slots -/
def Keeps (tg : GG) (vs : List Nat) : Prop := ∀ d ρ ρ', tg d ρ = .ok ρ' → wipeD ρ' vs = wipeD ρ vs
theorem keeps_name {i : Nat} {vs : List Nat} (h : i ∈ vs) : Keeps (gtName i) vs := fun d ρ ρ' e => by
  cases e
  exact wipeD_set ρ i _ vs h
theorem setAll_wipe {vs : List Nat} : ∀ {is : List Nat} {ds : List DV} {ρ : EnvD}, (∀ i ∈ is, i ∈ vs) → wipeD (setAll is ds ρ) vs = wipeD ρ vs
  | [], _, _, _ => by unfold setAll; rfl
  | i :: is, [], _, _ => by unfold setAll; rfl
  | i :: is, d :: ds, ρ, h => by
    show wipeD (setAll is ds (ρ.set i (some d))) vs = _
    rw [setAll_wipe fun j hj => h j (List.mem_cons_of_mem _ hj)]
    exact wipeD_set ρ i _ vs (h i List.mem_cons_self)
theorem keeps_tup {is vs : List Nat} (h : ∀ i ∈ is, i ∈ vs) : Keeps (gtTup is) vs := fun d ρ ρ' e => by
  cases d with
  | tup ds =>
    have e : (if ds.length = is.length then Rs.ok (setAll is ds ρ) else .stuck) = .ok ρ' := e
    split at e
    · cases e; exact setAll_wipe h
    · cases e
  | _ => cases e
end
end DL
end

/-! text DL9 -/
section
set_option maxRecDepth 100000
set_option maxHeartbeats 4000000
/-! the data layer, part 9: comprehensions; stores -/
namespace DL
open PySem PySem.Spec PyProof.Rows L2
section
variable {C : Cxt} {W : Wx} {F F' H H' : Hp} {Γ : List Md} {σ : L2.St} {ρ : EnvD} {L : List Ent} {m ma mb mr me mi : Md} {d : DV} {v : V} {st : Bool}
/-- the heap without p -/
def hide (p : Addr) (H : Hp) : Hp := fun a => if a = p then none else H a
theorem hide_same {p : Addr} (s : Same H H') : Same (hide p H) (hide p H') := fun a o e => by
  unfold hide at e ⊢
  split at e
  · cases e
  · rename_i h
    rw [if_neg h]
    exact s _ _ e
theorem hide_upd {p : Addr} {o : HO} : Same (hide p H) (upd H p o) := fun a u e => by
  unfold hide at e
  split at e
  · cases e
  · rename_i h
    rw [upd_ne h]
    exact e
theorem hide_upd2 {p : Addr} {o : HO} : hide p (upd H p o) = hide p H := by
  funext a
  unfold hide
  split
  · rfl
  · rename_i h
    rw [upd_ne h]
theorem hide_new {p : Addr} (np : H p = none) : Same H (hide p H) := fun a u e => by
  unfold hide
  rw [if_neg (ne_of_none e np)]
  exact e
/-- entries that a write at p leaves as they are -/
def Safe (C : Cxt) (F : Hp) (p : Addr) (H : Hp) (L : List Ent) : Prop := ∀ e ∈ L, e.1.stor = true ∨ (e.1.free = true ∧ At C F (hide p H) e.1 e.2.1 e.2.2 [])
theorem Safe.of {p : Addr} (h : storL L) : Safe C F p H L := fun e he => .inl (List.all_eq_true.mp h e he)
theorem Safe.mono {p : Addr} (h : Safe C F p H L) (a : Same F F') (b : Same H H') : Safe C F' p H' L := fun e he => (h e he).imp_right fun ⟨q, x⟩ => ⟨q, x.mono a (fun _ z => by cases z) (fun _ z => by cases z) (.inr (hide_same b))⟩
theorem Safe.upd {p : Addr} {o : HO} (h : Safe C F p H L) : Safe C F p (upd H p o) L := fun e he => by
  rw [hide_upd2]
  exact h e he
theorem Exs.safe {p : Addr} {o : HO} : ∀ {L : List Ent} {fp : List Addr}, Exs C F H L fp → Safe C F p H L → (∀ a ∈ fp, F a = none) → (∀ a ∈ fp, a ≠ p) → Exs C F (L2.upd H p o) L fp
  | [], _, h, _, _, _ => h
  | (m, d, v) :: L, _, ⟨f1, f2, h1, h2, h3⟩, s, n, k => by
    subst h1
    have h4 := Exs.safe (o := o) h3 (fun e he => s e (List.mem_cons_of_mem _ he)) (fun a ha => n a (List.mem_append_right _ ha)) (fun a ha => k a (List.mem_append_right _ ha))
    refine ⟨f1, f2, rfl, ?_, h4⟩
    rcases s (m, d, v) List.mem_cons_self with q | ⟨q, x⟩
    · exact h2.mono (Same.refl _) (fun a ha => n a (List.mem_append_left _ ha)) (fun a ha => upd_ne (k a (List.mem_append_left _ ha))) (.inl q)
    · have e := h2.free_nil q
      subst e
      exact x.mono (Same.refl _) (fun _ z => by cases z) (fun _ z => by cases z) (.inr hide_upd)
/-- a list of one's own grows by what the first entry holds -/
theorem Rep.push {ds : List DV} {y : V} (r : Rep C F H Γ σ ρ ((m, d, y) :: (.own m, .lst ds, v) :: L)) (hΓ : Γ.all Md.stor = true) (qm : m.stor = true) :
    ∃ p vs, v = .ref p ∧ H p = some (.lst vs) ∧ ds.length = vs.length ∧ F p = none ∧ C.Bp p = none ∧ (Safe C F p H L → Rep C F (L2.upd H p (.lst (vs ++ [y]))) Γ σ ρ ((.own m, .lst (ds ++ [d]), v) :: L)) := by
  obtain ⟨f1, f2, nd, a, g1, g2, h1, h2, g3, g4, h3, h4, h5⟩ := r.own
  unfold At at h4
  rw [if_pos (show isLD (.lst ds) = true from rfl)] at h4
  obtain ⟨p, vs, o, fc, e1, e2, e3, e4, e5, e6, e7⟩ := h4
  obtain rfl : o = .lst vs := e5
  subst e1
  subst e6
  subst h3
  subst h1
  refine ⟨p, vs, rfl, e4, e7.length, e2, e3, fun sf => ?_⟩
  -- f1 ++ (g1 ++ ((p :: fc) ++ g4)) has no address twice
  have np := List.nodup_append.mp nd
  have np2 := List.nodup_append.mp np.2.1
  have np3 := List.nodup_append.mp np2.2.1
  have np4 := List.nodup_cons.mp np3.1
  have n1 : ∀ x ∈ f1, x ≠ p := fun x hx e => np.2.2 x hx p (List.mem_append_right _ (List.mem_append_left _ List.mem_cons_self)) e
  have n2 : ∀ x ∈ g1, x ≠ p := fun x hx e => np2.2.2 x hx p (List.mem_append_left _ List.mem_cons_self) e
  have n3 : ∀ x ∈ fc, x ≠ p := fun x hx e => np4.1 (e ▸ hx)
  have n4 : ∀ x ∈ g4, x ≠ p := fun x hx e => np3.2.2 p List.mem_cons_self x hx e.symm
  have o1 := a.owned
  have o2 := h2.owned
  have o4 := h5.owned
  have nm : ∀ x u, L2.upd H p (.lst (vs ++ [y])) x = some u → tupO u = true → H x = some u := fun x u e t => by
    by_cases z : x = p
    · subst z; rw [upd_same] at e; cases e; cases t
    · rw [upd_ne z] at e; exact e
  have lq : ∀ x u, x ≠ p → H x = some u → L2.upd H p (.lst (vs ++ [y])) x = some u := fun x u z e => by rw [upd_ne z]; exact e
  have fit : Fit C F (L2.upd H p (.lst (vs ++ [y]))) := ⟨r.fit.ff, fun x u e => lq x u (fun z => by rw [z, e2] at e; cases e) (r.fit.fh _ _ e), fun x u e => lq x u (fun z => by rw [z, e3] at e; cases e) (r.fit.bh _ _ e), r.fit.f0, fun x u e t => r.fit.tp x u (nm x u e t) t⟩
  have stm : ∀ {m : Md} {d : DV} {v : V} {f : List Addr}, m.stor = true → At C F H m d v f → (∀ x ∈ f, x ≠ p) → At C F (L2.upd H p (.lst (vs ++ [y]))) m d v f := fun q x k => x.mono (Same.refl _) (fun z hz => (x.owned z hz).1) (fun z hz => upd_ne (k z hz)) (.inl q)
  refine ⟨fit, r.io, f1, (p :: (fc ++ g1)) ++ g4, ?_, a.mono (Same.refl _) (fun x hx => (o1 x hx).1) (fun x hx => upd_ne (n1 x hx)) (.inl hΓ), p :: (fc ++ g1), g4, rfl, ?_, h5.safe sf (fun x hx => (o4 x hx).1) n4⟩
  · refine List.Perm.nodup (l := f1 ++ (g1 ++ ((p :: fc) ++ g4))) (List.Perm.append (List.Perm.refl _) ?_) nd
    rw [← List.append_assoc]
    refine List.Perm.append ?_ (List.Perm.refl _)
    exact List.perm_append_comm
  · unfold At
    rw [if_pos (show isLD (.lst (ds ++ [d])) = true from rfl)]
    refine ⟨p, vs ++ [y], _, fc ++ g1, rfl, e2, e3, upd_same, rfl, rfl, ?_⟩
    exact (e7.imp fun d v f hf x => stm qm x fun z hz => n3 z (hf z hz)).append (Alls.one (stm qm h2 n2))

/-! ### entries in another order -/
theorem Exs.perm {L L' : List Ent} (p : L.Perm L') : ∀ {f : List Addr}, Exs C F H L f → ∃ f', f.Perm f' ∧ Exs C F H L' f' := by
  induction p with
  | nil => exact fun {f} h => ⟨f, List.Perm.refl _, h⟩
  | cons e _ ih =>
    obtain ⟨m, d, v⟩ := e
    intro f ⟨f1, f2, h1, h2, h3⟩
    obtain ⟨g, pg, h4⟩ := ih h3
    exact ⟨f1 ++ g, by rw [h1]; exact List.Perm.append (List.Perm.refl _) pg, f1, g, rfl, h2, h4⟩
  | swap a b l =>
    obtain ⟨m, d, v⟩ := a
    obtain ⟨m2, d2, v2⟩ := b
    intro f ⟨f1, f2, h1, h2, f3, f4, h3, h4, h5⟩
    refine ⟨f3 ++ (f1 ++ f4), ?_, f3, f1 ++ f4, rfl, h4, f1, f4, rfl, h2, h5⟩
    rw [h1, h3, ← List.append_assoc, ← List.append_assoc]
    exact List.Perm.append List.perm_append_comm (List.Perm.refl _)
  | trans _ _ ih1 ih2 =>
    intro f h
    obtain ⟨g, pg, h1⟩ := ih1 h
    obtain ⟨g2, pg2, h2⟩ := ih2 h1
    exact ⟨g2, pg.trans pg2, h2⟩
theorem Rep.permL {L' : List Ent} (r : Rep C F H Γ σ ρ L) (p : L.Perm L') : Rep C F H Γ σ ρ L' := by
  obtain ⟨f1, f2, nd, a, b⟩ := r.own
  obtain ⟨f3, pf, b2⟩ := b.perm p
  exact ⟨r.fit, r.io, f1, f3, (List.Perm.append (List.Perm.refl _) pf).nodup nd, a, b2⟩
theorem Exs.each : ∀ {L : List Ent} {fp : List Addr}, Exs C F H L fp → ∀ e ∈ L, ∃ f, At C F H e.1 e.2.1 e.2.2 f
  | (m, d, v) :: L, _, ⟨f1, f2, h1, h2, h3⟩, e, he => by
    rcases List.mem_cons.mp he with rfl | he
    · exact ⟨f1, h2⟩
    · exact Exs.each h3 e he
theorem Rep.safe0 {D : Addr} (r : Rep C F H Γ σ ρ L) (hL : okL L) (nD : H D = none) : Safe C F D H L := fun e he => (hL e he).imp_right fun q => by
  obtain ⟨f1, f2, nd, a, b⟩ := r.own
  obtain ⟨f, h⟩ := b.each e he
  have ef := h.free_nil q
  subst ef
  exact ⟨q, h.mono (Same.refl _) (fun _ z => by cases z) (fun _ z => by cases z) (.inr (hide_new nD))⟩

/-! ### comprehensions -/
def consO : Option DV → List DV → List DV
  | some x, r => x :: r
  | none, r => r
/-- what a turn gives: nothing, or one more item -/
def lcLoop (f : DV → Rs (Option DV)) : List DV → Rs (List DV)
  | [] => .ok []
  | d :: ds => (f d).bind fun o => (lcLoop f ds).bind fun r => .ok (consO o r)
def lcTurn (tg : GG) (gt : GT) (ge : GE) (ρ : EnvD) (d : DV) : Rs (Option DV) := (tg d ρ).bind fun ρ' => (gt ρ').bind fun b => if b = true then (ge ρ').bind fun x => .ok (some x) else .ok none
def gLc (gi : GI) (tg : GG) (gt : GT) (ge : GE) (vs : List Nat) : GE := fun ρ => (gi ρ).bind fun its => if its.length ≤ sizeLine then (lcLoop (lcTurn tg gt ge (wipeD ρ vs)) its).bind fun r => .ok (.lst r) else .stuck
theorem PE'.exOf {Q : VK} {c : Str} {x : DV} {r : Rs DV} (h : PE' C W Γ F H σ ρ L m Q r) (e : r = .ex c x) : ∀ F' H', Same F F' → Same H H' → Fit C F' H' → W c x H' := by
  subst e
  exact h
theorem se_lc {wi : TI} {gi : GI} {g : TG} {tg : GG} {tt : TT} {gt : GT} {te : TE} {ge : GE} {is vs : List Nat} (hi : SI C W Γ wi gi mi false) (hg : SN C Γ g tg mi is) (hk : Keeps tg vs) (hx : ∀ d ρ c e, tg d ρ ≠ .ex c e) (hv : ∀ i ∈ is, i ∈ vs) (ht : ST C W Γ tt gt) (he : SE C W Γ te ge me)
    (hΓ : Γ.all Md.stor = true) (qm : me.stor = true) (hio : ∀ p ∈ C.io, ∀ i ∈ vs, p.1 ≠ i) : SE C W Γ (tLc wi g tt te vs) (gLc gi tg gt ge vs) (.own me) := by
  intro F H σ ρ L Q hL r k
  refine hi F H σ ρ L _ hL r ?_
  unfold gLc at k
  revert k
  cases gi ρ with
  | ex c d => exact fun k => k
  | stuck => exact fun k => k
  | ok its =>
    intro k F1 H1 J E s1 s2 _ hA r1 w
    have k : PE' C W Γ F H σ ρ L (.own me) Q (if its.length ≤ sizeLine then (lcLoop (lcTurn tg gt ge (wipeD ρ vs)) its).bind fun r => .ok (.lst r) else .stuck) := k
    split at k
    case isFalse => exact k.elim
    case isTrue hz =>
    intro D nD
    obtain ⟨S, hS, r2, back⟩ := r1.wipe (vs := vs) hΓ hio
    have hSL : okL (S ++ L) := fun e he => by
      rcases List.mem_append.mp he with h | h
      · exact .inl (List.all_eq_true.mp hS e h)
      · exact hL e h
    have hE : okL E := fun e he => .inr (hA e he).1
    have hESL : okL (E ++ (S ++ L)) := fun e he => by
      rcases List.mem_append.mp he with h | h
      · exact hE e h
      · exact hSL e h
    have pm : (S ++ (E ++ L)).Perm (E ++ (S ++ L)) := by
      rw [← List.append_assoc, ← List.append_assoc]
      exact List.Perm.append List.perm_append_comm (List.Perm.refl _)
    have r3 := r2.permL pm
    -- the accumulated items, the state between two turns
    let Inv : Nat → Hp → Prop := fun i H' => ∃ (F' : Hp) (acc : List DV), Same F1 F' ∧ Same H1 (hide D H') ∧ acc.length ≤ i ∧ Rep C F' H' Γ (L2.wipe σ vs) (wipeD ρ vs) ((.own me, .lst acc, .ref D) :: (E ++ (S ++ L))) ∧ Safe C F' D H' (E ++ (S ++ L)) ∧
      PE' C W Γ F1 H1 σ ρ L (.own me) Q ((lcLoop (lcTurn tg gt ge (wipeD ρ vs)) (its.drop i)).bind fun r => .ok (.lst (acc ++ r)))
    refine ⟨fun i n H => i + n = its.length ∧ Inv i H, ⟨its.length, by omega, F1, [], Same.refl _, ?_, Nat.le_refl _, r3.newl nD ⟨rfl, rfl⟩, ?_, k.mono s1 s2⟩, fun i n H2 hW => ?_⟩
    · rw [hide_upd2]
      exact hide_new nD
    · exact (r3.safe0 hESL nD).upd
    · obtain ⟨en, F2, acc, s3, s4, la, r4, sf, k2⟩ := hW
      have s4' : Same H1 H2 := fun a o e => by
        have h := s4 a o e
        unfold hide at h
        split at h
        · cases h
        · exact h
      have rW : Rep C F2 H2 Γ (L2.wipe σ vs) (wipeD ρ vs) (E ++ ((.own me, .lst acc, .ref D) :: (S ++ L))) := r4.permL (List.perm_middle.symm)
      obtain ⟨w1, w2⟩ := w i F2 H2 Γ (L2.wipe σ vs) (wipeD ρ vs) _ rW
      cases e : its[i]? with
      | none =>
        have hl := List.getElem?_eq_none_iff.mp e
        rw [List.drop_of_length_le hl] at k2
        refine .inl ⟨w1 hl, ?_⟩
        have k3 : PE' C W Γ F1 H1 σ ρ L (.own me) Q (.ok (.lst (acc ++ []))) := k2
        rw [List.append_nil] at k3
        refine k3 F2 H2 (.ref D) s3 s4' (back F2 H2 _ ?_)
        have r5 : Rep C F2 H2 Γ (L2.wipe σ vs) (wipeD ρ vs) (((.own me, .lst acc, .ref D) :: (S ++ L))) := rW.dropE
        exact r5.permL (List.perm_middle.symm)
      | some d =>
        have hl := (List.getElem?_eq_some_iff.mp e).1
        have ed : its.drop i = d :: its.drop (i + 1) := by
          rw [List.drop_eq_getElem_cons hl, (List.getElem?_eq_some_iff.mp e).2]
        rw [ed] at k2
        obtain ⟨w3, w4⟩ := w2 d e
        refine .inr ⟨w3, fun H' => Inv (i + 1) H', fun H' h => ⟨n - 1, by omega, by omega, h⟩, fun x H3 hy => ?_⟩
        obtain ⟨F3, s5, s6, r5⟩ := w4 x H3 hy
        have k2 : PE' C W Γ F1 H1 σ ρ L (.own me) Q (((lcTurn tg gt ge (wipeD ρ vs) d).bind fun o => (lcLoop (lcTurn tg gt ge (wipeD ρ vs)) (its.drop (i + 1))).bind fun r => .ok (consO o r)).bind fun r => .ok (.lst (acc ++ r))) := k2
        have r5 : Rep C F3 H3 Γ (L2.wipe σ vs) (wipeD ρ vs) ((mi, d, x) :: ((.own me, .lst acc, .ref D) :: (E ++ (S ++ L)))) := r5.permL (List.Perm.cons _ List.perm_middle)
        unfold lcTurn at k2
        cases et : tg d (wipeD ρ vs) with
        | ex c d => exact absurd et (hx _ _ _ _)
        | stuck => rw [et] at k2; exact k2.elim
        | ok ρ2 =>
          rw [et] at k2
          refine hg F3 H3 (L2.wipe σ vs) (wipeD ρ vs) _ d x ρ2 _ r5 et fun σ2 hw r6 => ?_
          have ew : L2.wipe σ2 vs = L2.wipe σ vs := (hw vs hv).trans (wipe_idem σ vs)
          have ewD : wipeD ρ2 vs = wipeD ρ vs := (hk d _ ρ2 et).trans (wipeD_idem ρ vs)
          have hO : okL ((.own me, .lst acc, .ref D) :: (E ++ (S ++ L))) := okL_cons (by show (me.stor || false) = true; rw [qm]; rfl) hESL
          refine ⟨ew, ?_⟩
          refine ht F3 H3 σ2 ρ2 _ _ hO r6 ?_
          revert k2
          show PE' C W Γ F1 H1 σ ρ L (.own me) Q ((((gt ρ2).bind fun b => if b = true then (ge ρ2).bind fun x => Rs.ok (some x) else .ok none).bind fun o => (lcLoop (lcTurn tg gt ge (wipeD ρ vs)) (its.drop (i + 1))).bind fun r => .ok (consO o r)).bind fun r => .ok (.lst (acc ++ r))) → _
          have sh : ∀ {H4 : Hp}, Same H3 H4 → Same H1 (hide D H4) := fun s => s4.trans (hide_same (s6.trans s))
          cases gt ρ2 with
          | ex c d => exact fun k F4 H4 s7 s8 f => k F4 H4 (s3.trans (s5.trans s7)) (s4'.trans (s6.trans s8)) f
          | stuck => exact fun k => k
          | ok b =>
            intro k F4 H4 s7 s8 r7
            cases b with
            | false =>
              show Inv (i + 1) H4
              have k3 : PE' C W Γ F1 H1 σ ρ L (.own me) Q (((lcLoop (lcTurn tg gt ge (wipeD ρ vs)) (its.drop (i + 1))).bind fun r => .ok (consO none r)).bind fun r => .ok (.lst (acc ++ r))) := k
              rw [bind2] at k3
              have r8 := r7.forget (vs := vs) hio
              rw [ew, ewD] at r8
              exact ⟨F4, acc, s3.trans (s5.trans s7), sh s8, Nat.le_succ_of_le la, r8, (sf.mono (s5.trans s7) (s6.trans s8)), k3⟩
            | true =>
              show te σ2 H4 _
              refine he F4 H4 σ2 ρ2 _ _ hO r7 ?_
              revert k
              show PE' C W Γ F1 H1 σ ρ L (.own me) Q ((((ge ρ2).bind fun x => Rs.ok (some x)).bind fun o => (lcLoop (lcTurn tg gt ge (wipeD ρ vs)) (its.drop (i + 1))).bind fun r => .ok (consO o r)).bind fun r => .ok (.lst (acc ++ r))) → _
              cases ge ρ2 with
              | ex c d => exact fun k F5 H5 s9 s10 f => k F5 H5 (s3.trans (s5.trans (s7.trans s9))) (s4'.trans (s6.trans (s8.trans s10))) f
              | stuck => exact fun k => k
              | ok dy =>
                intro k F5 H5 y s9 s10 r8
                have k3 : PE' C W Γ F1 H1 σ ρ L (.own me) Q (((lcLoop (lcTurn tg gt ge (wipeD ρ vs)) (its.drop (i + 1))).bind fun r => .ok (dy :: r)).bind fun r => .ok (.lst (acc ++ r))) := k
                rw [bind2] at k3
                obtain ⟨p, ws, z1, z2, z3, z4, z5, z6⟩ := r8.push hΓ qm
                cases z1
                have sf5 : Safe C F5 D H5 (E ++ (S ++ L)) := sf.mono (s5.trans (s7.trans s9)) (s6.trans (s8.trans s10))
                refine ⟨ws, z2, by rw [← z3]; exact Nat.lt_of_le_of_lt la (Nat.lt_of_lt_of_le hl hz), ?_⟩
                have r9 := (z6 sf5).forget (vs := vs) hio
                rw [ew, ewD] at r9
                refine ⟨F5, acc ++ [dy], s3.trans (s5.trans (s7.trans s9)), ?_, by rw [List.length_append]; exact Nat.succ_le_succ la, r9, sf5.upd, ?_⟩
                · rw [hide_upd2]
                  exact sh (s8.trans s10)
                · have e3 : (fun r : List DV => (Rs.ok (DV.lst ((acc ++ [dy]) ++ r)) : Rs DV)) = fun r => (Rs.ok (dy :: r)).bind fun r => .ok (.lst (acc ++ r)) := by
                    funext r
                    show _ = Rs.ok (DV.lst (acc ++ (dy :: r)))
                    rw [List.append_assoc]
                    rfl
                  rw [e3]
                  exact k3
end
end DL
end

/-! text DL10 -/
section
set_option maxRecDepth 100000
set_option maxHeartbeats 4000000
/-! the data layer, part 10: defs, their calls, the law -/
namespace DL
open PySem PySem.Spec PyProof.Rows L2
abbrev C0 (K : PySem.W.Frag) (mg : Str → Option Value) (H F : Hp) : Cxt := ⟨K, mg, H, F, []⟩
def ArgsAt (C : Cxt) (F H : Hp) : List Md → List DV → List V → Prop
  | [], [], [] => True
  | m :: ms, d :: ds, v :: vs => At C F H m d v [] ∧ ArgsAt C F H ms ds vs
  | _, _, _ => False
def PD (C : Cxt) (XW : Wx) (F : Hp) (mr : Md) (Q : VK) : Rs DV → Prop
  | .ok d => ∀ F' H' v fp, Same F F' → Fit C F' H' → At C F' H' mr d v fp → fp.Nodup → Q v H'
  | .ex c d => ∀ F' H', Same F F' → Fit C F' H' → XW c d H'
  | .stuck => False
/-- a def's promise by its mirror -/
def spD (K : PySem.W.Frag) (mg : Str → Option Value) (XW : XK → Wx) (pm : List Md) (mr : Md) (f : List DV → Rs DV) : Sp := fun vs H Q E =>
  ∃ F ds, Fit (C0 K mg H F) F H ∧ ArgsAt (C0 K mg H F) F H pm ds vs ∧ PD (C0 K mg H F) (XW E) F mr Q (f ds)
def X0 : XK → Wx := fun _ _ _ _ => False
def W0 : Wx := fun _ _ _ => False
theorem ArgsAt.len {C : Cxt} {F H : Hp} : ∀ {ms : List Md} {ds : List DV} {vs : List V}, ArgsAt C F H ms ds vs → ds.length = ms.length ∧ vs.length = ms.length
  | [], [], [], _ => ⟨rfl, rfl⟩
  | m :: ms, d :: ds, v :: vs, h => by
    obtain ⟨a, b⟩ := ArgsAt.len h.2
    exact ⟨by rw [List.length_cons, List.length_cons, a], by rw [List.length_cons, List.length_cons, b]⟩
  | [], _ :: _, _, h => h.elim
  | [], [], _ :: _, h => h.elim
  | _ :: _, [], _, h => h.elim
  | _ :: _, _ :: _, [], h => h.elim
def startD (n : Nat) (ds : List DV) : EnvD := ds.map some ++ List.replicate (n - ds.length) none
def finB : Out → Rs DV
  | .nx _ => .ok .non
  | .rt d _ => .ok d
  | .ex c d => .ex c d
  | _ => .stuck
/-- a def's mirror by its body's, over n slots -/
def runB (g : GS) (n : Nat) (ds : List DV) : Rs DV := finB (g (startD n ds))
section
variable {C : Cxt} {W : Wx} {F F' H H' : Hp} {Γ : List Md} {σ : L2.St} {ρ : EnvD} {L : List Ent} {m ma mb mr me mi : Md} {d : DV} {v : V}
theorem slots_none : ∀ (Γ : List Md), Slots C F H Γ (List.replicate Γ.length none) (List.replicate Γ.length none) []
  | [] => rfl
  | m :: Γ => ⟨[], [], rfl, rfl, slots_none Γ⟩
theorem slots_start : ∀ {pm : List Md} {ds : List DV} {vs : List V} (Γ : List Md), ArgsAt C F H pm ds vs → Slots C F H (pm ++ Γ) (vs.map some ++ List.replicate Γ.length none) (ds.map some ++ List.replicate Γ.length none) []
  | [], [], [], Γ, _ => slots_none Γ
  | m :: pm, d :: ds, v :: vs, Γ, h => ⟨[], [], rfl, ⟨v, rfl, h.1⟩, slots_start Γ h.2⟩
  | [], _ :: _, _, _, h => h.elim
  | [], [], _ :: _, _, h => h.elim
  | _ :: _, [], _, _, h => h.elim
  | _ :: _, _ :: _, [], _, h => h.elim
/-- THE RULE of a def that lets no exception out -/
theorem fnD {P : Program} {w : World} {K : PySem.W.Frag} {mg : Str → Option Value} {base : Heap} {k : Nat} {x qual : Str} {st : Stmt} {f : Addr} {fd : FuncData} {N ps : List Str} {pm Γl : List Md} {mr : Md} {g : GS}
    (Fn : FunD K x qual (defArgs st) (defBody st) (defScope st) [] [] f fd) (S : FnScope N ps (defScope st)) (hp : pm.length = ps.length) (hN : pm.length + Γl.length = N.length) (qr : mr.rd = true)
    (hb : ∀ (cdv : Value) (A : Around) (outer : List PySem.Env) (s : Shared) (H : Hp) (E : XK), Room k (A.deeper (envOfC qual (defScope st) s.heap.objs.size f cdv)) →
      ∃ t, PSs (cxOf CX0 P w K mg base N qual (defScope st) f cdv A outer s H E).nox (defBody st) t ∧ ∀ (Bp F0 : Hp), ∃ Γ', SS ⟨K, mg, Bp, F0, []⟩ W0 mr [] (pm ++ Γl) t g Γ') :
    FnOk P w K mg base CX0 (k + 1) f fd ps (spD K mg X0 pm mr (runB g N.length)) := by
  refine Fn.ok S (fun vs H Q E h => ?_) fun cdv A outer s H vs Q E hr h => ?_
  · obtain ⟨F, ds, _, h2, _⟩ := h
    rw [h2.len.2, hp]
  · obtain ⟨F, ds, h1, h2, h3⟩ := h
    obtain ⟨t, ht, hs⟩ := hb cdv A outer s H E hr
    obtain ⟨l1, l2⟩ := h2.len
    obtain ⟨Γ', hs⟩ := hs H F
    refine ⟨t, ht.nox, hs F H (start N vs) (startD N.length ds) [] _ rfl ?_ ?_⟩
    · refine ⟨h1, fun p hp => (by cases hp), [], [], List.nodup_nil, ?_, rfl⟩
      unfold L2.start startD
      rw [l1, l2, show N.length - pm.length = Γl.length by omega]
      exact slots_start Γl h2
    · unfold runB at h3
      revert h3
      cases g (startD N.length ds) with
      | nx ρ' => exact fun h3 F1 H1 σ1 s1 r1 => h3 F1 H1 .non [] s1 r1.fit (At.flat qr rfl) List.nodup_nil
      | rt d ρ' =>
        intro h3 F1 H1 Γr σ1 L1 v s1 r1
        obtain ⟨f1, f2, nd, a, g1, g2, e1, e2, e3⟩ := r1.own
        subst e1
        exact h3 F1 H1 v g1 s1 r1.fit e2 (nd.sublist (List.Sublist.trans (List.sublist_append_left _ _) (List.sublist_append_right _ _)))
      | bk ρ' => exact fun h => h.elim
      | ct ρ' => exact fun h => h.elim
      | ex c d => exact fun h3 F1 H1 s1 f1 => h3 F1 H1 s1 f1
      | stuck => exact fun h => h
/-! ### calls -/
@[reducible] def Md.fits : Md → Md → Bool
  | m, .bo => m.rd
  | .fr, .fr => true
  | .sc, .sc => true
  | _, _ => false
@[reducible] def fitsL : List Md → List Md → Bool
  | [], [] => true
  | m :: ms, p :: ps => Md.fits m p && fitsL ms ps
  | _, _ => false
theorem Rep.args : ∀ {ms pm : List Md} {ds : List DV} {vs : List V} {L : List Ent}, Rep C F H Γ σ ρ (entsA ms ds vs L) → fitsL ms pm = true → ds.length = vs.length → ms.length = vs.length → ArgsAt (C0 C.K C.mg H F) F H pm ds vs ∧ Rep C F H Γ σ ρ L
  | [], [], [], [], L, r, _, _, _ => ⟨trivial, r⟩
  | m :: ms, p :: pm, d :: ds, v :: vs, L, r, q, e1, e2 => by
    obtain ⟨q1, q2⟩ := (Bool.and_eq_true _ _).mp (show (Md.fits m p && fitsL ms pm) = true from q)
    obtain ⟨h1, r1⟩ := Rep.args (ms := ms) (pm := pm) (ds := ds) (vs := vs) r q2 (by simpa using e1) (by simpa using e2)
    refine ⟨⟨?_, h1⟩, r1.tail⟩
    cases p with
    | bo => exact ⟨rfl, r1.da q1⟩
    | fr =>
      cases m with
      | fr => exact ⟨rfl, r1.fr⟩
      | _ => cases q1
    | sc =>
      cases m with
      | sc => obtain ⟨f, h⟩ := r1.head; exact ⟨rfl, h.2⟩
      | _ => cases q1
    | pk m => cases m <;> cases q1
    | own m => cases m <;> cases q1
    | tu m => cases m <;> cases q1
    | ob m => cases m <;> cases q1
    | po m => cases m <;> cases q1
  | [], _ :: _, _, _, _, _, q, _, _ => by cases q
  | _ :: _, [], _, _, _, _, q, _, _ => by cases q
  | [], [], _ :: _, [], _, _, _, e, _ => by cases e
  | [], [], _, _ :: _, _, _, _, _, e => by cases e
  | _ :: _, _ :: _, [], _ :: _, _, _, _, e, _ => by cases e
  | _ :: _, _ :: _, _, [], _, _, _, _, e => by cases e
/-- the callee's frozen part is one of the caller's -/
theorem Fit.lift (e : Fit C F H) (h : Fit (C0 C.K C.mg H F) F' H') : Fit C F' H' := by
  refine ⟨e.ff.trans h.ff, h.fh, e.bh.trans h.bh, fun a ha => ?_, h.tp⟩
  rcases h.f0 a ha with z | z | ⟨o, z1, z2⟩
  · exact e.f0 a z
  · exact .inr (.inl (Same.free e.bh z))
  · exact e.f0 a (by rw [e.tp a o z1 z2]; exact fun z => by cases z)
theorem At.conv {C C' : Cxt} (hK : C'.K = C.K) (hm : C'.mg = C.mg) : ∀ {m : Md} {d : DV} {v : V} {fp : List Addr}, m.fz = true → At C F H m d v fp → (∀ a ∈ fp, C'.Bp a = none) → At C' F H m d v fp := by
  intro m
  induction m with
  | fr => intro d v fp _ h _; unfold At at h ⊢; rw [hK, hm]; exact h
  | bo => intro d v fp q; cases q
  | sc => intro d v fp q; cases q
  | pk m ih | po m ih => intro d v fp q; cases q
  | tu m ih =>
    intro d v fp q h k
    unfold At at h ⊢
    split at h
    · rename_i z
      rw [if_pos z]
      obtain ⟨a, vs, h1, h2, h3⟩ := h
      rw [hK]
      exact ⟨a, vs, h1, h2, h3.imp fun d v f hf x => ih q x fun a ha => k a (hf a ha)⟩
    · rename_i z
      rw [if_neg z, hK, hm]
      exact h
  | own m ih | ob m ih =>
    intro d v fp q h k
    unfold At at h ⊢
    split at h
    · rename_i z
      rw [if_pos z]
      obtain ⟨a, vs, o, fc, h1, h2, h3, h4, h5, h6, h7⟩ := h
      subst h6
      exact ⟨a, vs, o, fc, h1, h2, k a List.mem_cons_self, h4, by rw [hm]; exact h5, rfl, h7.imp fun d v f hf x => ih q x fun a ha => k a (List.mem_cons_of_mem _ (hf a ha))⟩
    · rename_i z
      rw [if_neg z, hK, hm]
      exact h
/-- behind a call -/
theorem Rep.call {fp : List Addr} (r : Rep C F H Γ σ ρ L) (q : m.fz = true) (hf : Fit (C0 C.K C.mg H F) F' H') (h : At (C0 C.K C.mg H F) F' H' m d v fp) (nd : fp.Nodup) : Rep C F' H' Γ σ ρ ((m, d, v) :: L) := by
  have s : Same H H' := hf.bh
  have sf : Same F F' := hf.ff
  have on : ∀ a, Owned C F H a → F' a = none := fun a ⟨h1, h2, o, h3, h4⟩ => by
    cases e : F' a with
    | none => rfl
    | some u =>
      rcases hf.f0 a (by rw [e]; exact fun z => by cases z) with z | z | ⟨o2, z1, z2⟩
      · exact absurd h1 z
      · rw [show H a = none from z] at h3; cases h3
      · rw [show H a = some o2 from z1] at h3
        cases h3
        cases o <;> first | exact h4.elim | cases z2
  have oh : ∀ a, Owned C F H a → H' a = H a := fun a ⟨h1, h2, o, h3, h4⟩ => by rw [h3]; exact s _ _ h3
  have fr : ∀ a ∈ fp, H a = none := fun a ha => (h.owned a ha).2.1
  obtain ⟨f1, f2, nd2, a, b⟩ := r.own
  have oa := a.owned
  have ob := b.owned
  refine ⟨r.fit.lift hf, r.io, f1, fp ++ f2, ?_, a.mono sf (fun x hx => on x (oa x hx)) (fun x hx => oh x (oa x hx)) (.inr s), fp, f2, rfl, h.conv (C := C0 C.K C.mg H F) (C' := C) rfl rfl q (fun x hx => Same.free r.fit.bh (fr x hx)), b.mono sf (fun x hx => on x (ob x hx)) (fun x hx => oh x (ob x hx)) (.inr s)⟩
  have hn : ∀ x ∈ f1 ++ f2, x ∉ fp := fun x hx hy => by
    have z := fr x hy
    rcases List.mem_append.mp hx with w | w
    · obtain ⟨_, _, o, e, _⟩ := oa x w; rw [z] at e; cases e
    · obtain ⟨_, _, o, e, _⟩ := ob x w; rw [z] at e; cases e
  refine List.Perm.nodup (l := fp ++ (f1 ++ f2)) ?_ ?_
  · rw [← List.append_assoc, ← List.append_assoc]
    exact List.Perm.append List.perm_append_comm (List.Perm.refl _)
  · exact List.nodup_append.mpr ⟨nd, nd2, fun x hx y hy e => hn y hy (e ▸ hx)⟩
theorem se_call {XW : XK → Wx} {E : XK} {pm ms : List Md} {f : List DV → Rs DV} {t : TA} {g : GA} (h : SA C W Γ t g ms) (hx : ∀ c d H', W c d H' → XW E c d H') (hf : fitsL ms pm = true := by rfl) (q : mr.fz = true := by rfl) :
    SE C W Γ (tCall (spD C.K C.mg XW pm mr f) [] E t) (gCB f g) mr := by
  intro F H σ ρ L Q hL r k
  show t σ H fun vs H1 => spD C.K C.mg XW pm mr f (vs ++ []) H1 Q E
  refine sa_then h hL r k fun ds F1 H1 vs s1 s2 e1 e2 r1 k1 => ?_
  rw [List.append_nil]
  obtain ⟨a1, r2⟩ := r1.args hf e1 e2
  refine ⟨F1, ds, ⟨Same.refl _, r2.fit.fh, Same.refl _, fun a h => .inl h, r2.fit.tp⟩, a1, ?_⟩
  revert k1
  cases f ds with
  | ok d => exact fun k1 F2 H2 v fp s3 f2 h2 nd => k1 F2 H2 v s3 f2.bh (r2.call q f2 h2 nd)
  | ex c d => exact fun k1 F2 H2 s3 f2 => hx c d H2 (k1 F2 H2 s3 f2.bh (r2.fit.lift f2))
  | stuck => exact fun k1 => k1
/-- the law's end -/
theorem law_end {K : PySem.W.Frag} {mg : Str → Option Value} {f : List DV → Rs DV} {H : Hp} {a : Addr} {ns : List Int} {E : XK} (h : f [.lst (ns.map .int)] = .ok (.bl true)) (hS : SqL K H a (ns.map V.int)) : spD K mg X0 [.sc] .fr f [.ref a] H (fun v _ => v = .bl true) E := by
  refine ⟨H, [.lst (ns.map .int)], ⟨Same.refl _, Same.refl _, Same.refl _, fun a h => .inl h, fun a o h _ => h⟩, ⟨⟨rfl, a, ns, rfl, rfl, hS⟩, trivial⟩, ?_⟩
  rw [h]
  exact fun F' H' v fp _ _ h _ => h.2
end
end DL
end

/-! text DL11 -/
section
set_option maxRecDepth 100000
set_option maxHeartbeats 4000000
/-! the data layer, part 11: stores into what is owned -/
namespace DL
open PySem PySem.Spec PyProof.Rows L2
section
variable {C : Cxt} {W : Wx} {F F' H H' : Hp} {Γ Γb Γ' : List Md} {σ : L2.St} {ρ : EnvD} {L : List Ent} {m ma mb mr me mi : Md} {d : DV} {v : V} {Dn : Ends}
/-! a, b = e1, e2 -/
def gPar (i j : Nat) (g : GA) : GS := fun ρ => match g ρ with
  | .ok [a, b] => .nx ((ρ.set i (some a)).set j (some b))
  | .ex c d => .ex c d
  | _ => .stuck
theorem ss_par {i j : Nat} {t : TA} {g : GA} (h : SA C W Γ t g [ma, mb]) (li : i < Γ.length) (lj : j < Γ.length) (hio : ∀ p ∈ C.io, p.1 ≠ i ∧ p.1 ≠ j) : SS C W mr Γb Γ (tPar i j t) (gPar i j g) ((Γ.set i ma).set j mb) := by
  intro F H σ ρ L Dn hs r k
  show t σ H fun vs H1 => ∃ v w, vs = [v, w] ∧ Dn.nx ((σ.set i (some v)).set j (some w)) H1
  refine h F H σ ρ L _ hs.ok r ?_
  unfold gPar at k
  revert k
  cases g ρ with
  | ex c d => exact fun k F1 H1 s1 s2 f => k F1 H1 s1 f
  | stuck => exact fun k => k
  | ok ds =>
    intro k F1 H1 vs s1 s2 e1 e2 r1
    match vs, ds, e1, e2, r1, k with
    | [x, y], [dx, dy], _, _, r1, k =>
      refine ⟨x, y, rfl, ?_⟩
      have r2 : Rep C F1 H1 Γ σ ρ ((ma, dx, x) :: (mb, dy, y) :: L) := Rep.swap (L := L) r1
      have r3 := r2.put li fun p hp => (hio p hp).1
      have r4 := r3.put (by rw [List.length_set]; exact lj) fun p hp => (hio p hp).2
      exact k F1 H1 _ s1 r4
/-! x += e of ints -/
def gAug (i : Nat) (f : Int → Int → Int) (g : GE) : GS := fun ρ => match lk ρ i with
  | .ok (.int a) => (match g ρ with
    | .ok (.int b) => .nx (ρ.set i (some (.int (f a b))))
    | .ex c d => .ex c d
    | _ => .stuck)
  | _ => .stuck
theorem ss_aug {i : Nat} {f : Int → Int → Int} {t : TE} {g : GE} (h : SE C W Γ t g ma) (hi : Γ[i]? = some m) (hio : ∀ p ∈ C.io, p.1 ≠ i) (q : m.rd = true := by rfl) (qa : ma.rd = true := by rfl) : SS C W mr Γb Γ (tAug i t (ipI f)) (gAug i f g) Γ := by
  intro F H σ ρ L Dn hs r k
  unfold gAug at k
  rcases lk_cases ρ i with ⟨d, e2, e3⟩ | e3
  · rw [e3] at k
    cases d with
    | int a =>
      obtain ⟨x, h1, r0⟩ := r.look hi e2
      have hx : x = .int a := by
        obtain ⟨f, hf⟩ := r0.head
        exact hf.int1
      subst hx
      refine ⟨.int a, h1, ?_⟩
      refine h F H σ ρ L _ hs.ok r ?_
      revert k
      show PS' C W mr Γb Γ F H L Dn (match g ρ with | .ok (.int b) => .nx (ρ.set i (some (.int (f a b)))) | .ex c d => .ex c d | _ => .stuck) → _
      cases g ρ with
      | ex c d => exact fun k F1 H1 s1 s2 f => k F1 H1 s1 f
      | stuck => exact fun k => k
      | ok d =>
        intro k F1 H1 y s1 s2 r1
        have hd := r1.da qa
        cases d with
        | int b =>
          have r2 : Rep C F1 H1 Γ σ ρ ((m, .int (f a b), .int (f a b)) :: L) := r1.tail.cons0 (At.flat q rfl)
          have r3 := r2.put (List.getElem?_eq_some_iff.mp hi).1 hio
          rw [set_id hi] at r3
          exact ⟨a, b, rfl, hd, k F1 H1 _ s1 r3⟩
        | _ => exact k.elim
    | _ => exact k.elim
  · rw [e3] at k
    exact k.elim
/-! xs.append(e) of a name's own list -/
def gApp (i : Nat) (g : GX) : GX := fun ρ => match lk ρ i with
  | .ok (.lst _) => (g ρ).bind fun p => (match lk p.2 i with
    | .ok (.lst ds) => if ds.length < sizeLine then .ok (.non, p.2.set i (some (.lst (ds ++ [p.1])))) else .stuck
    | _ => .stuck)
  | _ => .stuck
theorem sx_app {i : Nat} {t : TE} {g : GX} (hi : Γ[i]? = some (.own m)) (h : SX C W Γ t g m) (hΓ : Γ.all Md.stor = true) (qm : m.stor = true := by rfl) : SX C W Γ (tBM C.K "list" rAppend (tVar i) (tCons t tNil)) (gApp i g) .fr := by
  intro F H σ ρ L Q hs r k
  show ∃ v, σ[i]? = some (some v) ∧ (tyV C.K "list" v H ∧ t σ H fun y H2 => rAppend v [y] H2 Q)
  unfold gApp at k
  rcases lk_cases ρ i with ⟨d, e2, e3⟩ | e3
  · rw [e3] at k
    cases d with
    | lst ds0 =>
      obtain ⟨x, h1, r0⟩ := r.look hi e2
      obtain ⟨f, hf⟩ := r0.head
      have hf : At C F H (.pk m.peek) (.lst ds0) x f := hf
      unfold At at hf
      rw [if_pos (show isLD (.lst ds0) = true from rfl)] at hf
      obtain ⟨a, ws, rfl, hrd, _⟩ := hf
      refine ⟨.ref a, h1, .inl ⟨rfl, ws, .inl hrd⟩, ?_⟩
      refine h F H σ ρ L _ hs r ?_
      revert k
      show PX' C W Γ F H σ L .fr Q ((g ρ).bind fun p => (match lk p.2 i with | .ok (.lst ds) => if ds.length < sizeLine then .ok (.non, p.2.set i (some (.lst (ds ++ [p.1])))) else .stuck | _ => .stuck)) → _
      cases g ρ with
      | ex c d => exact fun k => k
      | stuck => exact fun k => k
      | ok p =>
        obtain ⟨dy, ρ'⟩ := p
        intro k F1 H1 y s1 r1
        have k : PX' C W Γ F H σ L .fr Q (match lk ρ' i with | .ok (.lst ds) => if ds.length < sizeLine then .ok (.non, ρ'.set i (some (.lst (ds ++ [dy])))) else .stuck | _ => .stuck) := k
        rcases lk_cases ρ' i with ⟨d, g2, g3⟩ | g3
        · rw [g3] at k
          cases d with
          | lst ds =>
            have k : PX' C W Γ F H σ L .fr Q (if ds.length < sizeLine then .ok (.non, ρ'.set i (some (.lst (ds ++ [dy])))) else .stuck) := k
            split at k
            · rename_i hz
              obtain ⟨v, h2, r2⟩ := r1.take hi g2
              rw [h1] at h2
              cases h2
              obtain ⟨p, vs, z1, z2, z3, z4, z5, z6⟩ := r2.swap.push hΓ qm
              cases z1
              refine ⟨a, vs, y, rfl, rfl, z2, by rw [← z3]; exact hz, ?_⟩
              have r3 := (z6 (Safe.of hs)).back h1 (.inl hi)
              rw [set_set', set_id hi] at r3
              exact k F1 _ .non s1 (r3.cons0 ⟨rfl, rfl⟩)
            · exact k.elim
          | _ => exact k.elim
        · rw [g3] at k
          exact k.elim
    | _ => exact k.elim
  · rw [e3] at k
    exact k.elim
/-! xs[i] = e of a name's own list -/
theorem Alls.put {R : DV → V → List Addr → Prop} {d : DV} {v : V} {g : List Addr} (h : R d v g) : ∀ {ds : List DV} {vs : List V} {f : List Addr} {j : Nat}, Alls R ds vs f → j < ds.length → ∃ x y z, f = x ++ (y ++ z) ∧ Alls R (ds.set j d) (vs.set j v) (x ++ (g ++ z))
  | [], _, _, j, _, l => by simp at l
  | d1 :: ds, _, _, 0, ⟨w, r, f1, f2, h1, h2, h3, h4⟩, _ => by
    subst h1
    exact ⟨[], f1, f2, h2, v, r, g, f2, rfl, rfl, h, h4⟩
  | d1 :: ds, _, _, j + 1, ⟨w, r, f1, f2, h1, h2, h3, h4⟩, l => by
    subst h1
    obtain ⟨x, y, z, e1, e2⟩ := Alls.put h h4 (j := j) (by simpa using l)
    exact ⟨f1 ++ x, y, z, by rw [h2, e1, List.append_assoc], w, _, f1, x ++ (g ++ z), rfl, by rw [List.append_assoc], h3, e2⟩
theorem Rep.setAt {ds : List DV} {y : V} {j : Nat} (r : Rep C F H Γ σ ρ ((m, d, y) :: (.own m, .lst ds, v) :: L)) (hΓ : Γ.all Md.stor = true) (qm : m.stor = true) (hj : j < ds.length) (hs : storL L) :
    ∃ p vs, v = .ref p ∧ H p = some (.lst vs) ∧ ds.length = vs.length ∧ Rep C F (L2.upd H p (.lst (vs.set j y))) Γ σ ρ ((.own m, .lst (ds.set j d), v) :: L) := by
  obtain ⟨f1, f2, nd, a, g1, g2, h1, h2, g3, g4, h3, h4, h5⟩ := r.own
  unfold At at h4
  rw [if_pos (show isLD (.lst ds) = true from rfl)] at h4
  obtain ⟨p, vs, o, fc, e1, e2, e3, e4, e5, e6, e7⟩ := h4
  obtain rfl : o = .lst vs := e5
  subst e1
  subst e6
  subst h3
  subst h1
  refine ⟨p, vs, rfl, e4, e7.length, ?_⟩
  have np := List.nodup_append.mp nd
  have np2 := List.nodup_append.mp np.2.1
  have np3 := List.nodup_append.mp np2.2.1
  have np4 := List.nodup_cons.mp np3.1
  have n1 : ∀ x ∈ f1, x ≠ p := fun x hx e => np.2.2 x hx p (List.mem_append_right _ (List.mem_append_left _ List.mem_cons_self)) e
  have n2 : ∀ x ∈ g1, x ≠ p := fun x hx e => np2.2.2 x hx p (List.mem_append_left _ List.mem_cons_self) e
  have n3 : ∀ x ∈ fc, x ≠ p := fun x hx e => np4.1 (e ▸ hx)
  have n4 : ∀ x ∈ g4, x ≠ p := fun x hx e => np3.2.2 p List.mem_cons_self x hx e.symm
  have o1 := a.owned
  have o2 := h2.owned
  have o4 := h5.owned
  have nm : ∀ x u, L2.upd H p (.lst (vs.set j y)) x = some u → tupO u = true → H x = some u := fun x u e t => by
    by_cases z : x = p
    · subst z; rw [upd_same] at e; cases e; cases t
    · rw [upd_ne z] at e; exact e
  have lq : ∀ x u, x ≠ p → H x = some u → L2.upd H p (.lst (vs.set j y)) x = some u := fun x u z e => by rw [upd_ne z]; exact e
  have fit : Fit C F (L2.upd H p (.lst (vs.set j y))) := ⟨r.fit.ff, fun x u e => lq x u (fun z => by rw [z, e2] at e; cases e) (r.fit.fh _ _ e), fun x u e => lq x u (fun z => by rw [z, e3] at e; cases e) (r.fit.bh _ _ e), r.fit.f0, fun x u e t => r.fit.tp x u (nm x u e t) t⟩
  have stm : ∀ {m : Md} {d : DV} {v : V} {f : List Addr}, m.stor = true → At C F H m d v f → (∀ x ∈ f, x ≠ p) → At C F (L2.upd H p (.lst (vs.set j y))) m d v f := fun q x k => x.mono (Same.refl _) (fun z hz => (x.owned z hz).1) (fun z hz => upd_ne (k z hz)) (.inl q)
  have e8 : Alls (At C F (L2.upd H p (.lst (vs.set j y))) m) ds vs fc := e7.imp fun d v f hf x => stm qm x fun z hz => n3 z (hf z hz)
  obtain ⟨x, w, z, i1, i2⟩ := Alls.put (stm qm h2 n2) e8 hj
  subst i1
  refine ⟨fit, r.io, f1, (p :: (x ++ (g1 ++ z))) ++ g4, ?_, a.mono (Same.refl _) (fun x hx => (o1 x hx).1) (fun x hx => upd_ne (n1 x hx)) (.inl hΓ), p :: (x ++ (g1 ++ z)), g4, rfl, ?_, h5.safe (Safe.of hs) (fun x hx => (o4 x hx).1) n4⟩
  · have hp : List.Perm (f1 ++ (g1 ++ ((p :: (x ++ (w ++ z))) ++ g4))) (w ++ (f1 ++ ((p :: (x ++ (g1 ++ z))) ++ g4))) := by
      refine List.perm_iff_count.mpr fun b => ?_
      simp only [List.count_append, List.count_cons]
      omega
    exact ((hp.nodup nd)).sublist (List.sublist_append_right _ _)
  · unfold At
    rw [if_pos (show isLD (.lst (ds.set j d)) = true from rfl)]
    exact ⟨p, vs.set j y, _, _, rfl, e2, e3, upd_same, rfl, rfl, i2⟩
theorem ixN_lt {n : Nat} {i : Int} {j : Nat} (h : ixN n i = some j) : j < n := by
  unfold ixN at h
  split at h
  · split at h
    · cases h; omega
    · cases h
  · split at h
    · cases h; omega
    · cases h
def setD (x : DV) (i : DV) (y : DV) : Rs DV := match x, i with
  | .lst ds, .int k => (match ixN ds.length k with
    | some j => .ok (.lst (ds.set j y))
    | none => .stuck)
  | _, _ => .stuck
def gSetI (i : Nat) (gi : GE) (g : GX) : GS := fun ρ => match g ρ with
  | .ok (y, ρ') => (match lk ρ' i with
    | .ok x => (match gi ρ' with
      | .ok k => (match setD x k y with
        | .ok x' => .nx (ρ'.set i (some x'))
        | _ => .stuck)
      | .ex c d => .ex c d
      | .stuck => .stuck)
    | _ => .stuck)
  | .ex c d => .ex c d
  | .stuck => .stuck
theorem ss_seti {i : Nat} {t ti : TE} {g : GX} {gi : GE} (hi : Γ[i]? = some (.own m)) (h : SX C W Γ t g m) (hk : SE C W Γ ti gi mi) (hΓ : Γ.all Md.stor = true) (qm : m.stor = true := by rfl) (qi : mi.rd = true := by rfl) : SS C W mr Γb Γ (tAsg t (gSub (tVar i) ti rSetL)) (gSetI i gi g) Γ := by
  intro F H σ ρ L Dn hs r k
  show t σ H fun x H1 => ∃ v, σ[i]? = some (some v) ∧ ti σ H1 fun z H2 => rSetL v z x H2 fun H3 => Dn.nx σ H3
  refine h F H σ ρ L _ hs r ?_
  unfold gSetI at k
  revert k
  cases g ρ with
  | ex c d => exact fun k => k
  | stuck => exact fun k => k
  | ok p =>
    obtain ⟨dy, ρ'⟩ := p
    intro k F1 H1 y s1 r1
    have k : PS' C W mr Γb Γ F H L Dn (match lk ρ' i with | .ok x => (match gi ρ' with | .ok k => (match setD x k dy with | .ok x' => .nx (ρ'.set i (some x')) | _ => .stuck) | .ex c d => .ex c d | .stuck => .stuck) | _ => .stuck) := k
    rcases lk_cases ρ' i with ⟨dx, g2, g3⟩ | g3
    · rw [g3] at k
      have k : PS' C W mr Γb Γ F H L Dn (match gi ρ' with | .ok k => (match setD dx k dy with | .ok x' => .nx (ρ'.set i (some x')) | _ => .stuck) | .ex c d => .ex c d | .stuck => .stuck) := k
      obtain ⟨v, h2, _⟩ := r1.look hi g2
      refine ⟨v, h2, ?_⟩
      refine hk F1 H1 σ ρ' _ _ (storL_cons qm hs).ok r1 ?_
      revert k
      cases gi ρ' with
      | ex c d => exact fun k F2 H2 s2 s3 f => k F2 H2 (s1.trans s2) f
      | stuck => exact fun k => k
      | ok dk =>
        intro k F2 H2 z s2 s3 r2
        have hz := r2.da qi
        have k : PS' C W mr Γb Γ F H L Dn (match setD dx dk dy with | .ok x' => .nx (ρ'.set i (some x')) | _ => .stuck) := k
        cases dx with
        | lst ds =>
          cases dk with
          | int kk =>
            have k : PS' C W mr Γb Γ F H L Dn (match (match ixN ds.length kk with | some j => (Rs.ok (DV.lst (ds.set j dy)) : Rs DV) | none => .stuck) with | .ok x' => .nx (ρ'.set i (some x')) | _ => .stuck) := k
            cases e : ixN ds.length kk with
            | none => rw [e] at k; exact k.elim
            | some j =>
              rw [e] at k
              have k : PS' C W mr Γb Γ F H L Dn (.nx (ρ'.set i (some (.lst (ds.set j dy))))) := k
              obtain ⟨v2, h3, r3⟩ := r2.tail.take hi g2
              rw [h2] at h3
              cases h3
              obtain ⟨p, vs, z1, z2, z3, r4⟩ := r3.swap.setAt hΓ qm (ixN_lt e) hs
              subst z1
              refine ⟨p, vs, kk, j, rfl, hz, z2, by rw [← z3]; exact e, ?_⟩
              have r5 := r4.back h2 (.inl hi)
              rw [set_set', set_id hi] at r5
              exact k F2 _ σ (s1.trans s2) r5
          | _ => exact k.elim
        | _ => cases dk <;> exact k.elim
    · rw [g3] at k
      exact k.elim
end
end DL
end

/-! text DL12 -/
section
set_option maxRecDepth 100000
set_option maxHeartbeats 4000000
/-! the data layer, part 12: small things that a printed proof names -/
namespace DL
open PySem PySem.Spec PyProof.Rows L2
section
variable {C : Cxt} {W : Wx} {F F' H H' : Hp} {Γ : List Md} {σ : L2.St} {ρ : EnvD} {L : List Ent} {m ma mb mr me mi : Md} {d : DV} {v : V} {Dn : Ends} {st : Bool}
def gYes : GT := fun _ => .ok true
theorem st_yes : ST C W Γ tYes gYes := fun F H σ ρ L Q hL r k => k F H (Same.refl _) (Same.refl _) r
theorem st_tt {t : TE} {g : GE} (h : SE C W Γ t g m) (q : m.rd = true := by rfl) : ST C W Γ (tTest t) (gB g) := st_b h q
theorem nio {i : Nat} : ∀ p ∈ ([] : List (Nat × V × Md)), p.1 ≠ i := fun _ h => nomatch h
theorem nio2 {i j : Nat} : ∀ p ∈ ([] : List (Nat × V × Md)), p.1 ≠ i ∧ p.1 ≠ j := fun _ h => nomatch h
theorem nioL {is : List Nat} : ∀ p ∈ ([] : List (Nat × V × Md)), ∀ i ∈ is, p.1 ≠ i := fun _ h => nomatch h
theorem hx0 : ∀ (c : Str) (d : DV) (H' : Hp), W0 c d H' → X0 E0 c d H' := fun _ _ _ h => h
/-- items that cannot change are frozen by themselves -/
def gImmI (g : GI) : GI := fun ρ => (g ρ).bind fun its => if imms its = true then .ok its else .stuck
theorem imms_get : ∀ {ds : List DV} {i : Nat} {d : DV}, imms ds = true → ds[i]? = some d → imm d = true
  | [], _, _, _, h => by simp at h
  | a :: ds, 0, d, q, h => by
    simp at h
    subst h
    exact ((Bool.and_eq_true _ _).mp q).1
  | a :: ds, i + 1, d, q, h => imms_get (ds := ds) (i := i) ((Bool.and_eq_true _ _).mp q).2 (by simpa using h)
theorem si_imm {wi : TI} {gi : GI} (h : SI C W Γ wi gi m st) (q : m.rd = true := by rfl) : SI C W Γ wi (gImmI gi) .fr st := by
  intro F H σ ρ L R hL r k
  refine h F H σ ρ L R hL r ?_
  unfold gImmI at k
  revert k
  cases gi ρ with
  | ex c d => exact fun k => k
  | stuck => exact fun k => k
  | ok its =>
    show PI' C W Γ F H σ ρ L .fr st R (if imms its = true then .ok its else .stuck) → _
    split
    · rename_i hz
      intro k F1 H1 J E s1 s2 hs hA r1 w
      refine k F1 H1 J E s1 s2 hs hA r1 fun i F2 H2 Γ2 σ2 ρ2 L2 r2 => ?_
      obtain ⟨w1, w2⟩ := w i F2 H2 Γ2 σ2 ρ2 L2 r2
      refine ⟨w1, fun d hd => ⟨(w2 d hd).1, fun x H3 hy => ?_⟩⟩
      obtain ⟨F3, s3, s4, r3⟩ := (w2 d hd).2 x H3 hy
      exact ⟨F3, s3, s4, r3.tail.cons0 ⟨rfl, imm_da r3.fit.tp _ _ (imms_get hz hd) (r3.da q)⟩⟩
    · exact fun k => k.elim
/-- data without a place may be of any mode -/
def gFlat (g : GE) : GE := fun ρ => (g ρ).bind fun d => if (DL.flat d).isSome = true then .ok d else .stuck
theorem se_flat {t : TE} {g : GE} (h : SE C W Γ t g ma) (q : ma.rd = true) (qm : m.rd = true) : SE C W Γ t (gFlat g) m := by
  intro F H σ ρ L Q hL r k
  refine se_then h hL r k fun d F1 H1 x s1 s2 r1 k1 => ?_
  split at k1
  · rename_i hz
    obtain ⟨w, hw⟩ := Option.isSome_iff_exists.mp hz
    have e := da_flat hw (r1.da q)
    subst e
    exact k1.flat r1.tail qm hw
  · exact k1.elim
/-! displays over moved names -/
abbrev GAX := EnvD → Rs (List DV × EnvD)
def PAX' (C : Cxt) (W : Wx) (Γ : List Md) (F H : Hp) (σ : L2.St) (L : List Ent) (ms : List Md) (Q : List V → Hp → Prop) : Rs (List DV × EnvD) → Prop
  | .ok (ds, ρ') => ∀ F' H' vs, Same F F' → ds.length = vs.length → ms.length = vs.length → Rep C F' H' Γ σ ρ' (entsA ms ds vs L) → Q vs H'
  | .ex c d => ∀ F' H', Same F F' → Fit C F' H' → W c d H'
  | .stuck => False
def SXA (C : Cxt) (W : Wx) (Γ : List Md) (t : TA) (g : GAX) (ms : List Md) : Prop :=
  ∀ F H σ ρ L Q, storL L → Rep C F H Γ σ ρ L → PAX' C W Γ F H σ L ms Q (g ρ) → t σ H Q
def xNil : GAX := fun ρ => .ok ([], ρ)
def xCons (ga : GX) (gr : GAX) : GAX := fun ρ => (ga ρ).bind fun p => (gr p.2).bind fun q => .ok (p.1 :: q.1, q.2)
theorem sxa_nil : SXA C W Γ tNil xNil [] := fun F H σ ρ L Q hs r k => k F H [] (Same.refl _) rfl rfl r
theorem sxa_cons {ta : TE} {tr : TA} {ga : GX} {gr : GAX} {ms : List Md} (ha : SX C W Γ ta ga m) (hr : SXA C W Γ tr gr ms) (qo : m.stor = true := by rfl) : SXA C W Γ (tCons ta tr) (xCons ga gr) (m :: ms) := by
  intro F H σ ρ L Q hs r k
  show ta σ H fun x H1 => tr σ H1 fun xs H2 => Q (x :: xs) H2
  refine ha F H σ ρ L _ hs r ?_
  unfold xCons at k
  revert k
  cases ga ρ with
  | ex c d => exact fun k => k
  | stuck => exact fun k => k
  | ok p =>
    obtain ⟨d, ρ1⟩ := p
    intro k F1 H1 x s1 r1
    refine hr F1 H1 σ ρ1 _ _ (storL_cons qo hs) r1 ?_
    revert k
    show PAX' C W Γ F H σ L (m :: ms) Q ((gr ρ1).bind fun q => .ok (d :: q.1, q.2)) → _
    cases gr ρ1 with
    | ex c d => exact fun k F2 H2 s2 f => k F2 H2 (s1.trans s2) f
    | stuck => exact fun k => k
    | ok q =>
      obtain ⟨ds, ρ2⟩ := q
      exact fun k F2 H2 vs s2 e1 e2 r2 => k F2 H2 (x :: vs) (s1.trans s2) (by rw [List.length_cons, List.length_cons, e1]) (by rw [List.length_cons, List.length_cons, e2]) r2
def xTup (g : GAX) : GX := fun ρ => (g ρ).bind fun q => if q.1.length ≤ sizeLine then .ok (.tup q.1, q.2) else .stuck
def xLst (g : GAX) : GX := fun ρ => (g ρ).bind fun q => if q.1.length ≤ sizeLine then .ok (.lst q.1, q.2) else .stuck
theorem sx_tupM {t : TA} {g : GAX} {ms : List Md} (h : SXA C W Γ t g ms) (q : ∀ x ∈ ms, x = m) : SX C W Γ (tTup t) (xTup g) (.tu m) := by
  intro F H σ ρ L Q hs r k
  show t σ H fun xs H1 => xs.length ≤ sizeLine ∧ ∀ p, H1 p = none → Q (.ref p) (L2.upd H1 p (.tup xs))
  refine h F H σ ρ L _ hs r ?_
  unfold xTup at k
  revert k
  cases g ρ with
  | ex c d => exact fun k => k
  | stuck => exact fun k => k
  | ok p =>
    obtain ⟨ds, ρ1⟩ := p
    show PX' C W Γ F H σ L (.tu m) Q (if ds.length ≤ sizeLine then .ok (.tup ds, ρ1) else .stuck) → _
    split
    · rename_i hz
      intro k F1 H1 vs s1 e1 e2 r1
      refine ⟨by rw [← e1]; exact hz, fun p np => ?_⟩
      obtain ⟨sf, r2⟩ := r1.tuple q e2 e1 np
      exact k _ _ _ (s1.trans sf) r2
    · exact fun k => k.elim
theorem sx_tup {t : TA} {g : GAX} {ms : List Md} (h : SXA C W Γ t g ms) (q : ∀ x ∈ ms, x = .fr) : SX C W Γ (tTup t) (xTup g) .fr := sx_fr (sx_tupM h q) rfl
theorem sx_lst {t : TA} {g : GAX} {ms : List Md} (h : SXA C W Γ t g ms) (q : ∀ x ∈ ms, x = m) : SX C W Γ (tLst t) (xLst g) (.own m) := by
  intro F H σ ρ L Q hs r k
  show t σ H fun xs H1 => xs.length ≤ sizeLine ∧ ∀ p, H1 p = none → Q (.ref p) (L2.upd H1 p (.lst xs))
  refine h F H σ ρ L _ hs r ?_
  unfold xLst at k
  revert k
  cases g ρ with
  | ex c d => exact fun k => k
  | stuck => exact fun k => k
  | ok p =>
    obtain ⟨ds, ρ1⟩ := p
    show PX' C W Γ F H σ L (.own m) Q (if ds.length ≤ sizeLine then .ok (.lst ds, ρ1) else .stuck) → _
    split
    · rename_i hz
      intro k F1 H1 vs s1 e1 e2 r1
      refine ⟨by rw [← e1]; exact hz, fun p np => ?_⟩
      exact k F1 _ _ s1 (r1.node q e2 e1 np rfl rfl rfl rfl)
    · exact fun k => k.elim
/-- a list whose items cannot change: its items are frozen by themselves -/
def kidsImm : DV → Bool
  | .lst ds => imms ds
  | .dct _ ds => imms ds
  | d => imm d
def gImmL (g : GE) : GE := fun ρ => (g ρ).bind fun d => if kidsImm d = true then .ok d else .stuck
theorem imms_alls {K : PySem.W.Frag} {mg : Str → Option Value} (tp : ∀ a o, H a = some o → tupO o = true → F a = some o) : ∀ {ds : List DV} {vs : List V}, imms ds = true → DAs K mg H ds vs → DAs K mg F ds vs := fun {ds vs} q h => imms_da tp ds vs q h
theorem se_immL {t : TE} {g : GE} (h : SE C W Γ t g ma) (q : ma.rd = true) : SE C W Γ t (gImmL g) (.pk .fr) := by
  intro F H σ ρ L Q hL r k
  refine se_then h hL r k fun d F1 H1 x s1 s2 r1 k1 => ?_
  split at k1
  · rename_i hz
    have hd := r1.da q
    refine k1.give r1.tail ?_
    cases d with
    | lst ds =>
      obtain ⟨a, vs, e1, e2, e3⟩ := hd
      unfold At
      rw [if_pos (show isLD (.lst ds) = true from rfl)]
      exact ⟨a, vs, e1, e2, Alls.of_das (imms_alls r1.fit.tp hz e3) fun d v x => ⟨rfl, x⟩⟩
    | dct ks ds =>
      obtain ⟨a, vs, e1, e2, e3⟩ := hd
      unfold At
      rw [if_pos (show isLD (.dct ks ds) = true from rfl)]
      exact ⟨a, vs, e1, e2, Alls.of_das (imms_alls r1.fit.tp hz e3) fun d v x => ⟨rfl, x⟩⟩
    | obj c ns ds => cases hz
    | non => exact At.of_fr r1.fit.fh rfl (imm_da r1.fit.tp _ _ hz hd)
    | bl b => exact At.of_fr r1.fit.fh rfl (imm_da r1.fit.tp _ _ hz hd)
    | int i => exact At.of_fr r1.fit.fh rfl (imm_da r1.fit.tp _ _ hz hd)
    | str s => exact At.of_fr r1.fit.fh rfl (imm_da r1.fit.tp _ _ hz hd)
    | tup ds => exact At.of_fr r1.fit.fh rfl (imm_da r1.fit.tp _ _ hz hd)
  · exact k1.elim
end
/-! the rules that speak of the written part, with it named -/
section
variable {X : Cx} {K : PySem.W.Frag}
theorem kx_ix (h : X.K = K) : IxR X (rIxX K) := by subst h; exact ix_X
theorem kx_sl (h : X.K = K) : SlR X (rSlX K) := by subst h; exact sl_X
theorem kx_eq (h : X.K = K) (hu : X.A.units + 64 < cLine) : OpR X (compareOp .Eq) (rEqD K) := by subst h; exact op_eqD hu
theorem kx_ne (h : X.K = K) (hu : X.A.units + 64 < cLine) : OpR X (compareOp .NotEq) (rNeD K) := by subst h; exact op_neD hu
theorem kx_in (h : X.K = K) (hu : X.A.units + 65 < cLine) : OpR X (compareOp .In) (rInX K) := by subst h; exact op_inX hu
theorem kx_notIn (h : X.K = K) (hu : X.A.units + 65 < cLine) : OpR X (compareOp .NotIn) (rNotInX K) := by subst h; exact op_notInX hu
theorem kx_len (h : X.K = K) : CallR X (.builtin "len") (rLenX K) := by subst h; exact call_lenX
theorem kx_list (h : X.K = K) : CallR X (.type "list") (rListOf K) := by subst h; exact call_list_of
theorem kx_sum (h : X.K = K) (hc : X.calm = true) : CallR X (.builtin "sum") (rSum K) := by subst h; exact cr_sum hc
theorem kx_all (h : X.K = K) (hc : X.calm = true) : CallR X (.builtin "all") (rAll K) := by subst h; exact cr_all hc
theorem kx_any (h : X.K = K) (hc : X.calm = true) : CallR X (.builtin "any") (rAny K) := by subst h; exact cr_any hc
theorem kx_max (h : X.K = K) (hc : X.calm = true) : CallR X (.builtin "max") (rMax K) := by subst h; exact cr_max hc
theorem kx_min (h : X.K = K) (hc : X.calm = true) : CallR X (.builtin "min") (rMin K) := by subst h; exact cr_min hc
theorem kx_sorted (h : X.K = K) : CallR X (.builtin "sorted") (rSortedI K) := by subst h; exact cr_sortedI
theorem kx_seq {tg l : Expr} {tl : TE} (h : X.K = K) (hl : PE X l tl) : PI X tg l (iSeq K tl) := by subst h; exact pi_seq hl
theorem kx_tru {a : Expr} {ta : TE} (h : X.K = K) (ha : PE X a ta) (he : ∀ whole, isTrue a X.env whole = (do let v ← whole; standAt a.pos; holding [v] (truthy v))) : PT X a (tTru K ta) := by subst h; exact pt_truth ha he
end
section
variable {C : Cxt} {W : Wx} {Γ : List Md} {m : Md}
theorem si_seqC {t : TE} {g : GE} (h : SE C W Γ t g m) (q : m.ixok = true := by rfl) : SI C W Γ (iSeq C.K t) (gSeqI g) m.kid false := si_seq h q (fun h => by cases h)
theorem si_seqS {t : TE} {g : GE} (h : SE C W Γ t g m) (q : m.ixok = true := by rfl) (hs : m.stor = true := by rfl) : SI C W Γ (iSeq C.K t) (gSeqI g) m.kid true := si_seq h q (fun _ => hs)
end
end DL
namespace L2
open PySem
theorem Room.units65 {k : Nat} {A : Around} (r : Room k A) : A.units + 65 < cLine := by have := r.un; omega
end L2
end

/-! text DLH -/
section
set_option maxRecDepth 100000
set_option maxHeartbeats 4000000
/-! the data layer, the head: facts of the written part by tests of one's own -/
namespace DL
open PySem PySem.Spec PyProof.Rows L2
abbrev Qs := List (PySem.W.Frag → Bool)
def obsX (qs : Qs) (fn : List He.DefD) (K : PySem.W.Frag) : He.AlD := ((qs.all fun q => q K) && fn.all fun d => d.ok K, fn.map fun d => He.fnW K d.at_)
def SaysX (qs : Qs) (fn : List He.DefD) (K : PySem.W.Frag) : Prop := obsX qs fn K = He.valD fn
def obsXG (n : Nat) (qs : Qs) (fn : List He.DefD) (g : Addr → Option Obj) : He.AlD := obsX qs fn (He.frG g (cStatics :: He.asD g n))
def hookX (n : Nat) (qs : Qs) (fn : List He.DefD) : PySem.W.Hook where
  α := He.AlD
  obs := fun s => obsXG n qs fn s.heap.get?
  val := fun _ => He.valD fn
  says := fun _ h => ∃ K : PySem.W.Frag, K.In h ∧ SaysX qs fn K
  of := fun _ _ e => ⟨_, He.frG_in, e⟩
  keeps := fun _ _ _ ⟨K, hK, c⟩ k => ⟨K, PySem.W.Frag.In.keeps hK k, c⟩
theorem obsXG_eq {n : Nat} {qs : Qs} {fn : List He.DefD} {g : Addr → Option Obj} {s : Shared} (h : ∀ a, g a = s.heap.get? a) : obsXG n qs fn g = (hookX n qs fn).obs s := by
  have e : g = s.heap.get? := funext h
  rw [e] <;> rfl
section
variable {qs : Qs} {fn : List He.DefD} {K : PySem.W.Frag}
theorem SaysX.fact (c : SaysX qs fn K) (i : Nat) {q : PySem.W.Frag → Bool} (h : qs[i]? = some q := by rfl) : q K = true := by
  have c1 := ((Bool.and_eq_true _ _).mp (show ((qs.all fun q => q K) && fn.all fun d => d.ok K) = true from congrArg (fun z : He.AlD => z.1) c)).1
  exact List.all_eq_true.mp c1 q (List.mem_of_getElem? h)
theorem SaysX.def_ (c : SaysX qs fn K) (i : Nat) {d : He.DefD} (h : fn[i]? = some d := by rfl) : ∃ fd, FunD K d.name d.qual d.params d.body d.scope (d.dvs K) (d.kws K) (He.fAd K d.at_) fd := by
  have c2 := ((Bool.and_eq_true _ _).mp (show ((qs.all fun q => q K) && fn.all fun d => d.ok K) = true from congrArg (fun z : He.AlD => z.1) c)).2
  have e : fn.map (fun d => He.fnW K d.at_) = fn.map He.DefD.val := congrArg (fun z : He.AlD => z.2) c
  have e2 : (fn.map fun d => He.fnW K d.at_)[i]? = (fn.map He.DefD.val)[i]? := by rw [e]
  rw [List.getElem?_map, List.getElem?_map, h] at e2
  exact He.DefD.funD (Option.some.inj e2) (List.all_eq_true.mp c2 d (List.mem_of_getElem? h))
end
/-- the module's name x is the built-in function of this name -/
def bltB (x : Str) (id : String) (K : PySem.W.Frag) : Bool := match PySem.W.nsIn K mainGlobals x with
  | some (some (.builtin j)) => decide (j = id)
  | _ => false
theorem bltB_ok {K : PySem.W.Frag} {h : Heap} {mg : Str → Option Value} {x : Str} {id : String} (X : K.In h) (G : h.Ns mainGlobals mg) (c : bltB x id K = true) : mg x = some (.builtin id) := by
  unfold bltB at c
  split at c
  · rename_i j e
    have ej : j = id := of_decide_eq_true c
    subst ej
    exact PySem.W.mg_of X G e
  · cases c
end DL
end

/-! text DX0 -/
section
set_option maxRecDepth 100000
set_option maxHeartbeats 4000000
/-! own exceptions, part 0: an __init__ that says super().__init__(at); self.at = at, over ValueError, for the class and its heirs -/
namespace DL
open PySem PySem.Spec PyProof.Rows L2
abbrev exBody (p0 p1 p2 p3 p4 p5 p6 p7 p8 p9 : Pos) : List Stmt :=
  [.Expr (.Call (.Attribute (.Call (.Name "super" p0) [] [] p1) "__init__" p2) [.Name "at" p3] [] p4) p5,
   .Assign [.Attribute (.Name "self" p6) "at" p7] (.Name "at" p8) p9]
abbrev exScope : Scope := { kind := .function, names := [("self", .local), ("at", .local), ("__class__", .free), ("super", .globalImplicit)], isGenerator := false, isCoroutine := false, more := [] }
/-- what such an __init__ keeps -/
def spI (K : PySem.W.Frag) (D : Addr) : Sp := fun vs H Q _ => ∃ (a C : Addr) (v : V), vs = [.ref a, v] ∧ OexC K C ∧ PySem.W.mroIn K C (.ref D) = some true ∧
  PySem.W.subIn K (.ref C) (.type "ValueError") = some true ∧ PySem.W.ks_superIn K C D "__init__" = some (some (.builtin "ValueError.__init__")) ∧ PySem.W.findIn K (.ref C) "at" = some none ∧
  H a = some (exo a C none) ∧ ∀ dx, H dx = none → dx ≠ a → Q .non (upd (upd H dx (exd dx [("at", v)])) a (exo a C (some dx)))
abbrev inEnv (qual : Str) (L f : Addr) (cd : Value) (cc : Addr) : Env := PySem.W.ksEnv qual exScope L f cd cc
def cxI (P : Program) (w : World) (K : PySem.W.Frag) (mg : Str → Option Value) (base : Heap) (qual : Str) (f : Addr) (cd : Value) (cc : Addr) (A : Around) (outer : List Env) (s : Shared) (H : Hp) (E : XK) : Cx where
  prog := P
  w := w
  K := K
  mg := mg
  base := base
  A := A.deeper (inEnv qual s.heap.objs.size f cd cc)
  N := ["self", "at"]
  s_0 := s
  H_0 := H
  env := inEnv qual s.heap.objs.size f cd cc
  outer := outer
  stack := inEnv qual s.heap.objs.size f cd cc :: outer
  ex := []
  calm := true
  fn := fun x => decide (x ≠ "__class__")
  pn := []
  xe := fun e s' => wpAny (model P w) (A.deeper (inEnv qual s.heap.objs.size f cd cc)) (leaving (inEnv qual s.heap.objs.size f cd cc) e) (fun _ s'' => C8.CX0 outer H s E e s'') (fun e' s'' => C8.CX0 outer H s E e' s'') s'
theorem sup_init {P : Program} {w : World} {K : PySem.W.Frag} {mg : Str → Option Value} {base : Heap} {k : Nat} {D fI cc cda : Addr} {qual : Str} {params : Arguments} {ar : Arg} {dV kV doc pm ct oc ccl cl : Value} {an od cdd cld : Option Addr} {osl ccs csl : Array (Option Value)}
    {vs : Array Value} {file : Str} {tf : Tok} {cdD : ClassData} {p0 p1 p2 p3 p4 p5 p6 p7 p8 p9 : Pos}
    (lk : K.lookup fI = some ⟨oc, od, .func (PySem.W.ksFn "__init__" qual params (exBody p0 p1 p2 p3 p4 p5 p6 p7 p8 p9) exScope dV kV doc pm an (.ref cda) ct cc), osl⟩) (hcd : PySem.W.codeIn K (.ref cda) qual = true)
    (lc : K.lookup cda = some ⟨ccl, cdd, .fields vs, ccs⟩) (hvs : vs[2]? = some (.str file tf)) (hfile : ((P.main.file : Str) == file) = true) (lcc : K.lookup cc = some ⟨cl, cld, .cell (some (.ref D)), csl⟩) (hD : PySem.W.clsIn K D = some cdD)
    (hsu : mg "super" = none) (hany : PySem.W.nsIn K cStatics "thirdparty.any" = some none) (htop : (P.main.scope.names.lookup ("super" : Str)).isSome = false) (hpar : (params.posonlyargs ++ params.args).head? = some ar) (har : ar.arg = ("self" : Str))
    (hev : ∀ L : Addr, ∃ pl : Sem Bool, eval (.Call (.Attribute (.Call (.Name "super" p0) [] [] p1) "__init__" p2) [.Name "at" p3] [] p4) (inEnv qual L fI (.ref cda) cc) = (do
        let ov ← attributeBase (.Call (.Name "super" p0) [] [] p1) "__init__" (inEnv qual L fI (.ref cda) cc) (eval (.Call (.Name "super" p0) [] [] p1) (inEnv qual L fI (.ref cda) cc))
        standAt p2.atName
        let (f, first) ← holding [ov] (getMethod ov "__init__" pl)
        callWith p4 f first (backTo p4 (starEach [.Name "at" p3] (inEnv qual L fI (.ref cda) cc))) [])) :
    FnOk P w K mg base C8.CX0 (k + 1) fI (PySem.W.ksFn "__init__" qual params (exBody p0 p1 p2 p3 p4 p5 p6 p7 p8 p9) exScope dV kV doc pm an (.ref cda) ct cc) ["self", "at"] (spI K D) := by
  refine ⟨fun vs H Q E h => ?_, fun A outer s H args us vs Q E hr e0 hb r hsp => ?_⟩
  · obtain ⟨a, C, v, e, _⟩ := h
    rw [e]; rfl
  obtain ⟨a, C, v, e, T, hmro, hsub, hsup, hno, ea, hq⟩ := hsp
  subst e
  cases r with
  | @cons _ u0 _ ur ra rw' =>
  obtain rfl : u0 = Value.ref a := ra
  cases rw' with
  | @cons _ u _ ur2 rv rn =>
  cases rn
  have KX : K.In s.heap := e0.mod.kin.keeps fun b o e => (e0.bs b o e).1
  have lim : s.heap.NoLimit := e0.mod.nolimit.keeps fun b o e => (e0.bs b o e).1
  refine ks_codeAny_call_defAt hr.depth (KX _ _ lk) rfl lim (PySem.W.codeRec_of KX hcd) rfl hb (show ∀ x ∈ exScope.names, x.2 ≠ .cell by decide) (fun y hy => ?_) (fun h₁ hns hk => ?_) rfl rfl rfl
  · rcases List.mem_cons.mp hy with rfl | hy
    · rfl
    · rcases List.mem_cons.mp hy with rfl | hy
      · rfl
      · cases hy
  have I : Inv (cxI P w K mg base qual fI (.ref cda) cc A outer s H E) [] [some (.ref a), some v] H { s with heap := h₁, toks := s.toks + (["self", "at"].zip [Value.ref a, u]).length } := by
    have Kb : K.In base := e0.mod.kin
    have cab : ∀ y c, (inEnv qual s.heap.objs.size fI (.ref cda) cc).cells.lookup y = some c → y = "__class__" ∧ c = cc := fun y c e => by
      have e2 : (match y == ("__class__" : Str) with | true => some cc | false => none) = some c := e
      by_cases q : y = ("__class__" : Str)
      · subst q
        have e3 : some cc = some c := e2
        exact ⟨rfl, (Option.some.inj e3).symm⟩
      · rw [show (y == ("__class__" : Str)) = false from by simpa using q] at e2
        cases e2
    refine ⟨⟨e0.mod, rfl, rfl, rfl, Nat.le_refl _, fun y z c h1 h2 => (cab y c h1).1.trans (cab z c h2).1.symm, fun y hy => ?_, fun y c hn h => absurd (cab y c h).1 (of_decide_eq_true hn), fun _ => hr.hd, Around.frames_deeper e0.frames, .inr ⟨rfl, rfl⟩, fun b z => (nomatch z), e0.bs, e0.bsz, fun b _ _ z => (nomatch z), fun b z => (nomatch z), e0.funs, e0.frf⟩,
      rfl, e0.bare, Un.kept hk, ⟨_, hns, fun i y v' h1 h2 h3 => ?_⟩, fun y c h => ?_, e0.hok.fresh (Nat.le_refl _), fun y c h => ?_, fun p hp => (nomatch hp), e0.hok.kept hk, rfl⟩
    · have hy : exScope.names.lookup y = some .cell ∨ exScope.names.lookup y = some .free := hy
      have hz : y = "__class__" := by
        have hm : ∃ kd, (kd = NameKind.cell ∨ kd = NameKind.free) ∧ (y, kd) ∈ exScope.names := by
          rcases hy with hy | hy
          · exact ⟨_, .inl rfl, PySem.mem_of_lookup hy⟩
          · exact ⟨_, .inr rfl, PySem.mem_of_lookup hy⟩
        obtain ⟨kd, hkd, hm⟩ := hm
        simp only [exScope, List.mem_cons, List.not_mem_nil, Prod.mk.injEq, or_false] at hm
        rcases hm with ⟨_, q⟩ | ⟨_, q⟩ | ⟨q, _⟩ | ⟨_, q⟩
        · subst q; rcases hkd with z | z <;> cases z
        · subst q; rcases hkd with z | z <;> cases z
        · exact q
        · subst q; rcases hkd with z | z <;> cases z
      subst hz
      exact ⟨cc, rfl⟩
    · match i, h1, h2 with
      | 0, h1, h2 =>
        cases h1
        cases h2
        exact ⟨.ref a, rfl, .inl ⟨rfl, rfl⟩⟩
      | 1, h1, h2 =>
        cases h1
        cases h2
        exact ⟨u, rv, .inl ⟨rfl, rfl⟩⟩
      | (n + 2), h1, h2 => cases h1
    · obtain ⟨_, rfl⟩ := cab y c h
      exact ⟨_, ⟨_, hk _ _ (KX _ _ lcc), rfl⟩⟩
    · obtain ⟨_, rfl⟩ := cab y c h
      exact (e0.bs _ _ (Kb _ _ lcc)).2
  have K1 : K.In h₁ := fun b o e => hk _ _ (KX _ _ e)
  show _root_.PySem.wpAt (model P w) (A.deeper (inEnv qual s.heap.objs.size fI (.ref cda) cc)) (.func (exBody p0 p1 p2 p3 p4 p5 p6 p7 p8 p9) (inEnv qual s.heap.objs.size fI (.ref cda) cc)) (execs (exBody p0 p1 p2 p3 p4 p5 p6 p7 p8 p9) (inEnv qual s.heap.objs.size fI (.ref cda) cc)) _ _ _
  obtain ⟨pl, hev⟩ := hev s.heap.objs.size
  refine ks_wpAt_execs_cons (ks_wpAt_Expr_any (ks_wpAt_MethodCall (he := hev) ?_))
  · refine ks_wpAt_super_base rfl rfl rfl rfl (K1 _ _ lk) rfl hpar rfl (K1 _ _ lc) rfl hvs hfile htop ?_
    obtain ⟨mb, hb1, hb2⟩ := I.mod.blt
    refine PySem.W.ks_loadName_global rfl rfl (Calls.loadGlobal_builtin (env := inEnv qual s.heap.objs.size fI (.ref cda) cc) (I.mod.glob.keeps I.bk) hsu (hb1.keeps I.bk) ((hb2 _ (by decide)).trans (by first | boot_by_name | rfl | kernel_rfl)) ⟨rfl, ?_⟩)
    refine wpAny_loadName_free rfl rfl rfl ⟨_, K1 _ _ lcc, rfl⟩ ?_
    rw [har]
    refine wpAny_loadName_local rfl rfl hns (v := .ref a) rfl ?_
    obtain ⟨nm, q, N, bs, bm, sn, sub, ab, col, dd, k0, k1, k2, k3, k5, hC, hbm⟩ := T.cls
    obtain ⟨t1, ho⟩ := exo_at I.hok ea
    have hcl : PySem.W.clsIn K C = some { name := nm, bases := bs, mro := .ref C :: bm, ns := N, qualname := q, hasDict := true, slotNames := sn, subclasses := sub, abstract := ab, collection := col, hasDel := false } := by unfold PySem.W.clsIn; rw [hC] <;> rfl
    obtain ⟨oD, hD1, hD2⟩ : ∃ oD, K.lookup D = some oD ∧ oD.data = .cls cdD := by
      unfold PySem.W.clsIn at hD
      split at hD
      · rename_i c d cd' sl ho
        cases hD
        exact ⟨_, ho, rfl⟩
      · cases hD
    refine ks_wpAny_isType_cls (K1 _ _ hD1) hD2 ⟨rfl, ?_⟩
    refine ks_wpAny_call_super (K1 _ _ hD1) hD2 ho rfl (fun c e => nomatch e) (PySem.W.looks_mroIn K1 hmro) (fun h2 hso k2 => ?_)
    have K2 : K.In h2 := fun b o e => k2 _ _ (K1 _ _ e)
    unfold PySem.W.ks_superIn at hsup
    rw [hcl] at hsup
    have haC : a ≠ C := fun z => by
      rw [z] at ho
      have := K1 _ _ hC
      rw [ho] at this
      cases this
    have hI : PySem.W.InstAt h2 a { cls := .ref C, dict := none, data := .fields #[.ref t1, .none, .none, .none, .bool false, .none] } C none := ⟨k2 _ _ ho, rfl, rfl, trivial⟩
    refine PySem.W.kxs_getMethod PySem.W.kxs_ValueError hso (PySem.W.looks_opaque K2 hany) (l₀ := .ref C :: bm) (fun A Q E s k q => wpAny_bind ((PySem.W.looks_clsIn K2 hcl) A _ E s k (wpAny_pure q))) rfl K2 hsup (hI.type.andThen (PySem.W.looks_subIn K2 hsub)) haC (by decide) ?_
    have J2 : Inv (cxI P w K mg base qual fI (.ref cda) cc A outer s H E) [] [some (.ref a), some v] H ⟨h2, s.gens, s.drawn, s.toks + (["self", "at"].zip [Value.ref a, u]).length, s.os⟩ := I.kept (t' := s.toks + (["self", "at"].zip [Value.ref a, u]).length) k2
    have I2 : Inv (cxI P w K mg base qual fI (.ref cda) cc A outer s H E) [] [some (.ref a), some v] H ⟨h2.push (PySem.W.kxs_mw "ValueError.__init__" a), s.gens, s.drawn, s.toks + (["self", "at"].zip [Value.ref a, u]).length + 1, s.os⟩ :=
      J2.kept (t' := s.toks + (["self", "at"].zip [Value.ref a, u]).length + 1) (fun b o e => Heap.get?_push_of_some _ e)
    have hu : (h2.push (PySem.W.kxs_mw "ValueError.__init__" a)).get? h2.objs.size = some (PySem.W.kxs_mw "ValueError.__init__" a) := Heap.get?_push_at rfl rfl
    have hpin : ∀ p ∈ ([] : List (Addr × Obj)) ++ [(h2.objs.size, PySem.W.kxs_mw "ValueError.__init__" a)], (h2.push (PySem.W.kxs_mw "ValueError.__init__" a)).get? p.1 = some p.2 ∧ H p.1 = none ∧ p.1 ≠ s.heap.objs.size ∧ p.1 ∉ frs outer ∧ ∀ v, p.2.data ≠ .cell v := fun p hp => by
      rcases List.mem_cons.mp (show p ∈ (h2.objs.size, PySem.W.kxs_mw "ValueError.__init__" a) :: [] from hp) with rfl | hp
      · exact ⟨hu, J2.hok.fresh (Nat.le_refl _), Nat.ne_of_gt J2.lt, J2.nofs (Nat.le_refl _), fun v e => by cases e⟩
      · cases hp
    have I3 : Inv (cxI P w K mg base qual fI (.ref cda) cc A outer s H E) [(h2.objs.size, PySem.W.kxs_mw "ValueError.__init__" a)] [some (.ref a), some v] H ⟨h2.push (PySem.W.kxs_mw "ValueError.__init__" a), s.gens, s.drawn, s.toks + (["self", "at"].zip [Value.ref a, u]).length + 1, s.os⟩ :=
      ⟨I2.ok, I2.os, I2.bare, I2.base, I2.loc, I2.cell, I2.free, I2.freeC, hpin, I2.hok, I2.len⟩
    refine PySem.W.kxs_callWith (i := "ValueError.__init__") (x := a) rfl ?_
    have hPA : PA (cxI P w K mg base qual fI (.ref cda) cc A outer s H E) [.Name "at" p3] (tCons (tVar 1) tNil) := pa_cons (pe_var (i := 1) rfl (.inl rfl)) pa_nil
    refine Calls.evalArgs_plain (thn (hPA.run p4 _ _ _ H (fun vs H' => vs = [v] ∧ H = H') I3 ⟨v, rfl, rfl, rfl⟩) fun us s4 z => ?_)
    obtain ⟨vs4, H4, I4, r4, e1, e2⟩ := z
    subst e1 e2
    cases r4 with
    | @cons _ u4 _ ur4 rv4 rn4 =>
    cases rn4
    have hu4 := (I4.pin _ (by exact List.mem_cons_self)).1
    refine ⟨hu4, ?_⟩
    obtain ⟨hh, g, d, tk, os⟩ := s4
    obtain ⟨t4, ho4⟩ := exo_at I4.hok ea
    refine wpAny_call (codeAny_of_tree ?_)
    show wpAny _ _ (callAny (.ref h2.objs.size) ⟨[u4], []⟩) _ _ _
    simp only [callAny]
    refine wpAny_bind (wpAny_load hu4 ?_)
    simp only [PySem.W.kxs_mw, show (Value.type "method-wrapper" == Value.type "method" || Value.type "method-wrapper" == Value.type "builtin_function_or_method" || Value.type "method-wrapper" == Value.type "method-wrapper") = true by decide, if_true]
    refine PySem.W.KFB.if_so (by decide) ?_
    refine wpAny_bind (PySem.W.check_bound_init F.excBase_ValueError.toExcCallFacts (I4.kIn _ _ hC) ho4 rfl ?_)
    refine wpAny_bind (wpAny_pure (wpAny_pure ?_))
    refine ⟨plainId_quiet F.excBase_ValueError.init.plain _, codeAny_builtin F.excBase_ValueError.initEntry ?_⟩
    refine PySem.W.exc_init_tree (cls := .ref C) (t0 := t4) (dv := none) (c2 := .none) (c3 := .none) (b4 := .bool false) ho4 (by rw [sizeLine_eq]; simp) (fun h5 k5 e5 _ => ?_)
    have J := I4.write (t' := tk) (x := a) (e := a) (o := exo a C none) (by rw [ea]; exact True.intro) (.inl rfl) k5 ⟨_, e5⟩ (exo_ok e5)
    have eu : upd H a (exo a C none) = H := by
      funext b
      by_cases hb : b = a
      · rw [hb, upd_same, ea]
      · rw [upd_ne hb]
    rw [eu] at J
    have T' : OexC (cxI P w K mg base qual fI (.ref cda) cc A outer s H E).K C := T
    have hPS : PSs (cxI P w K mg base qual fI (.ref cda) cc A outer s H E) [.Assign [.Attribute (.Name "self" p6) "at" p7] (.Name "at" p8) p9] _ := pss_cons (ps_ost (pe_var (i := 0) rfl (.inl rfl)) (pe_var (i := 1) rfl (.inl rfl))) pss_nil
    refine wpAt_of_wpAny (thn (hPS.run _ _ _ H { nx := fun _ H' => Q .non H', rt := Q } J ?_) fun fl s6 hs => ?_)
    · refine ⟨v, rfl, .ref a, rfl, a, C, rfl, T, hno, .inl ⟨ea, fun dx n ne => hq dx n ne⟩⟩
    · cases fl with
      | next =>
        obtain ⟨σ', H', J6, q6⟩ := hs
        exact ⟨.non, H', J6.os, J6.bare, J6.base, J6.hok, rfl, q6⟩
      | ret u6 =>
        obtain ⟨v6, σ', H', J6, rv6, q6⟩ := hs
        exact ⟨v6, H', J6.os, J6.bare, J6.base, J6.hok, rv6, q6⟩
      | brk =>
        obtain ⟨_, _, _, q6⟩ := hs
        exact False.elim q6
      | cont =>
        obtain ⟨_, _, _, q6⟩ := hs
        exact False.elim q6
end DL
end

/-! text DX1 -/
section
set_option maxRecDepth 100000
set_option maxHeartbeats 4000000
/-! own exceptions, part 1: raise, try, what a handler asks -/
namespace DL
open PySem PySem.Spec PyProof.Rows L2
/-- what is wanted of an exception of one of the classes ecs, at the data -/
def XO (mg : Str → Option Value) (ecs : List Str) (E : XK) : Wx := fun c d H =>
  c ∈ ecs → ∀ (Ca dd : Addr) (v : V), mg c = some (.ref Ca) → flat d = some v → H dd = some (.xd [("at", v)]) → E (.ref Ca) (some dd) H
/-- what the written part says of the own exception class at Ca (its __init__ is D's, at fI) -/
structure ExF (K : PySem.W.Frag) (D fI Ca : Addr) : Prop where
  oc : OexC K Ca
  mro : PySem.W.mroIn K Ca (.ref D) = some true
  sub : PySem.W.subIn K (.ref Ca) (.type "ValueError") = some true
  sup : PySem.W.ks_superIn K Ca D "__init__" = some (some (.builtin "ValueError.__init__"))
  no : PySem.W.findIn K (.ref Ca) "at" = some none
  ini : PySem.W.findIn K (.ref Ca) "__init__" = some (some (.ref fI))
  xf : XfC K Ca
  cla : PySem.W.findIn K (.ref Ca) "__class__" = some (some (.builtin "object.__class__"))
  spe : PySem.W.specialIn K (.builtin "object.__class__") "__get__" = some (some (.builtin "getset_descriptor.__get__"))
  tak : PySem.W.takesIn K (.builtin "object.__class__") = some true
  obj : PySem.W.mroIn K Ca (.type "object") = some true
section
variable {C : Cxt} {W : Wx} {F F' H H' : Hp} {Γ Γb Γ' : List Md} {σ : L2.St} {ρ : EnvD} {L : List Ent} {m mr : Md} {d : DV} {v : V} {Dn : Ends}
def gRaise (c : Str) (ga : GA) : GS := fun ρ => match ga ρ with
  | .ok [d] => if (flat d).isSome = true then .ex c d else .stuck
  | .ex c d => .ex c d
  | _ => .stuck
/-- raise c(e) -/
def tRaiseO (K : PySem.W.Frag) (Ca D : Addr) (ta : TA) (E : XK) : TS := fun _ σ H => tMkO Ca (spI K D) [] ta σ H E
theorem xd_tup {fs : List (Str × V)} : tupO (.xd fs) = false := rfl
theorem Fit.xd {dx : Addr} {fs : List (Str × V)} (e : Fit C F H) (n : H dx = none) : Fit C F (upd H dx (.xd fs)) :=
  e.alloc (same_upd n) fun a o h q => by
    by_cases z : a = dx
    · subst z
      rw [upd_same] at h
      cases h
      cases q
    · rw [upd_ne z] at h
      exact h
theorem ss_raise {c : Str} {Ca D fI : Addr} {ecs : List Str} {E : XK} {ta : TA} {ga : GA} (h : SA C W Γ ta ga [m]) (T : ExF C.K D fI Ca) (hm : C.mg c = some (.ref Ca)) (hc : c ∈ ecs) (hx : ∀ c d H', W c d H' → XO C.mg ecs E c d H') (q : m.rd = true := by rfl) :
    SS C W mr Γb Γ (tRaiseO C.K Ca D ta E) (gRaise c ga) Γ' := by
  intro F H σ ρ L Dn hs r k
  show ta σ H fun vs H1 => vs.length ≤ 1000 ∧ ∀ a, H1 a = none → spI C.K D (.ref a :: (vs ++ [])) (upd H1 a (exo a Ca none)) _ _
  refine h F H σ ρ L _ hs.ok r ?_
  unfold gRaise at k
  revert k
  cases ga ρ with
  | ex c d => exact fun k F1 H1 s1 s2 f1 => k F1 H1 s1 f1
  | stuck => exact fun k => k.elim
  | ok ds =>
    intro k F1 H1 vs s1 s2 e1 e2 r1
    cases vs with
    | nil => cases e2
    | cons x vs =>
      cases vs with
      | cons y vs => simp at e2
      | nil =>
        cases ds with
        | nil => cases e1
        | cons d ds =>
          cases ds with
          | cons d2 ds => simp at e1
          | nil =>
            have k : PS' C W mr Γb Γ' F H L Dn (if (DL.flat d).isSome = true then .ex c d else .stuck) := k
            split at k
            · rename_i hz
              obtain ⟨w, hw⟩ := Option.isSome_iff_exists.mp hz
              have r2 : Rep C F1 H1 Γ σ ρ ((m, d, x) :: L) := r1
              have ex := da_flat hw (r2.da q)
              subst ex
              refine ⟨by simp, fun a na => ⟨a, Ca, x, rfl, T.oc, T.mro, T.sub, T.sup, T.no, upd_same, fun dx ndx nea => ⟨rfl, dx, [("at", x)], upd_same, ?_, ?_, ?_⟩⟩⟩
              · rw [upd_ne nea, upd_same]
              · rw [upd_ne nea] at ndx
                exact ndx
              · rw [upd_ne nea] at ndx
                have eH : upd (L2.del (upd (upd (upd H1 a (exo a Ca none)) dx (exd dx [("at", x)])) a (exo a Ca (some dx))) a) dx (.xd [("at", x)]) = upd H1 dx (.xd [("at", x)]) := by
                  funext b
                  by_cases hb : b = dx
                  · rw [hb, upd_same, upd_same]
                  · rw [upd_ne hb, upd_ne hb]
                    by_cases ha : b = a
                    · rw [ha, del_same, na]
                    · rw [del_ne ha, upd_ne ha, upd_ne hb, upd_ne ha]
                rw [eH]
                exact hx _ _ _ (k F1 _ s1 (r2.fit.xd ndx)) hc Ca dx x hm hw upd_same
            · exact k.elim
/-! ### what a handler asks -/
/-- isinstance(error, X): error is what the handler holds, at a, of the class cls, its dict d -/
def rIsX (D fI : Addr) (K : PySem.W.Frag) (a : Addr) (cls : Value) (d : Option Addr) : List V → Hp → VK → Prop := fun xs H Q => ∃ (Ca dd : Addr) (c : V) (cv : Value) (b : Bool) (fs : List (Str × V)), cls = .ref Ca ∧ d = some dd ∧ ExF K D fI Ca ∧ xs = [.ref a, c] ∧ (∀ u, RelV c u → u = cv) ∧
  PySem.W.kitOne K (.ref Ca) cv = some b ∧ H dd = some (.xd fs) ∧ Q (.bl b) H
theorem ex_inst {X : Cx} {pins : List (Addr × Obj)} {σ : L2.St} {H : Hp} {s : Shared} {a Ca dd : Addr} {oe : Obj} {fs : List (Str × V)} (hok : HOk X.prog X.w H s.heap) (hg : s.heap.get? a = some oe) (hz : Zc (.ref Ca) (some dd) oe) (hf : ∃ vs, oe.data = .fields vs) (hd : H dd = some (.xd fs)) :
    ∃ (od : Obj) (mA : Str → Option Value), PySem.W.InstAt s.heap a oe Ca (some od) ∧ (∀ f, RelO (fs.lookup f) (mA f)) ∧ ∀ f, PySem.W.lookIn f od = some (mA f) := by
  obtain ⟨vs, hv⟩ := hf
  obtain ⟨mA, hns, hr⟩ : ObjOk X.prog X.w H s.heap dd (.xd fs) := hok dd _ hd
  obtain ⟨od, ho, hl⟩ := lookIn_ns hns
  have nc : PySem.W.notCls oe = true := by
    unfold PySem.W.notCls
    rw [hv] <;> rfl
  exact ⟨od, mA, ⟨hg, hz.1, nc, by rw [hz.2]; exact ho⟩, hr, hl⟩
theorem call_isX {X : Cx} {a D fI : Addr} {cls : Value} {d : Option Addr} {oe : Obj} {pn : List (Addr × Obj)} (hz : Zc cls d oe) (hf : ∃ vs, oe.data = .fields vs) : CallR (X.suite a ((a, oe) :: pn)) (.builtin "isinstance") (rIsX D fI X.K a cls d) := by
  intro pins s σ H xs us Q I r h
  obtain ⟨Ca, dd, c, cv, b, fs, e1, e2, T, e, hcv, hk, hd, q⟩ := h
  subst e1 e2 e
  cases r with
  | @cons _ ua _ ur ra rr =>
  cases rr with
  | @cons _ uc _ ur2 rc rn =>
  cases rn
  obtain rfl : ua = Value.ref a := ra
  obtain rfl := hcv _ rc
  have hg := (I.pin (a, oe) (List.mem_append_left _ List.mem_cons_self)).1
  obtain ⟨od, mA, J, _, _⟩ := ex_inst (X := X) (pins := pins) (σ := σ) I.hok hg hz hf hd
  have hcl : (PySem.W.clsIn X.K Ca).isSome = true := by
    obtain ⟨cd, e, _⟩ := PySem.W.any_some T.xf.hdC
    rw [e] <;> rfl
  exact PySem.W.kia_one (PySem.W.kitx_exc hcl T.xf.ga T.xf.gg T.xf.exC T.cla T.spe T.tak T.obj) I.kIn J hk (fun z => nomatch z) fun tk => ⟨.bl b, H, I.kept (t' := tk) fun _ _ z => z, rfl, q⟩
/-- the exception's dict stays -/
def KeepsX (C : Cxt) (dd : Addr) (v : V) : Prop := ∀ F H, Fit C F H → H dd = some (.xd [("at", v)])
def gIsX (b : Bool) : GE := fun _ => .ok (.bl b)
theorem se_isX {i : Nat} {a Ca dd D fI Xa : Addr} {b : Bool} {v : V} (T : ExF C.K D fI Ca) (hio : (i, V.ref a, Md.fr) ∈ C.io) (hF : KeepsX C dd v) (hk : PySem.W.kitOne C.K (.ref Ca) (.ref Xa) = some b) (q : m.rd = true := by rfl) :
    SE C W Γ (tCB (rIsX D fI C.K a (.ref Ca) (some dd)) (tCons (tVar i) (tCons (tC (.ref Xa)) tNil))) (gIsX b) m := by
  intro F H σ ρ L Q hL r k
  have h1 := (r.io _ hio).1
  refine ⟨.ref a, h1, ⟨Ca, dd, .ref Xa, .ref Xa, b, [("at", v)], rfl, rfl, T, rfl, fun u e => e, hk, hF _ _ r.fit, ?_⟩⟩
  exact k.flat r q rfl
/-- error.at -/
def tAtX (D fI : Addr) (K : PySem.W.Frag) (a : Addr) (cls : Value) (d : Option Addr) (te : TE) : TE := fun σ H Q => te σ H fun x H1 => ∃ (Ca dd : Addr) (fs : List (Str × V)) (v : V), x = .ref a ∧ cls = .ref Ca ∧ d = some dd ∧ ExF K D fI Ca ∧ H1 dd = some (.xd fs) ∧ fs.lookup ("at" : Str) = some v ∧ Q v H1
theorem pe_atX {X : Cx} {a D fI : Addr} {oe : Obj} {cls : Value} {d : Option Addr} {pn : List (Addr × Obj)} {e : Expr} {te : TE} {pos : Pos} (hz : Zc cls d oe) (hf : ∃ vs, oe.data = .fields vs) (he : PE (X.suite a ((a, oe) :: pn)) e te) (hb : attributeBase e "at" X.env (eval e X.env) = eval e X.env := by rfl) :
    PE (X.suite a ((a, oe) :: pn)) (.Attribute e "at" pos) (tAtX D fI X.K a cls d te) := by
  refine ⟨fun pins s σ H Q I h => attr_of hb (thn (he.run pins s σ H _ I h) fun u s1 z => ?_)⟩
  obtain ⟨x, H1, I1, rx, Ca, dd, fs, v, ex, e1, e2, T, hd, hl, q⟩ := z
  subst ex e1 e2
  obtain rfl : u = Value.ref a := rx
  have hg := (I1.pin (a, oe) (List.mem_append_left _ List.mem_cons_self)).1
  obtain ⟨od, mA, J, hr, hlk⟩ := ex_inst (X := X) (pins := pins) (σ := σ) I1.hok hg hz hf hd
  obtain ⟨u, hu, ru⟩ := RelO.some_of (v := v) (o := mA "at") (hl ▸ hr "at")
  exact HandSPX.exc_get I1.kIn J T.xf.ga T.xf.gg T.xf.exC (PySem.W.findObj_own T.xf.hdC T.no rfl (by rw [hlk, hu])) (handed_of ru) ⟨v, H1, I1.tok _, ru, q⟩
def gAt (d : DV) : GE := fun _ => .ok d
theorem se_at {i : Nat} {a Ca dd D fI : Addr} {v : V} (T : ExF C.K D fI Ca) (hio : (i, V.ref a, Md.fr) ∈ C.io) (hF : KeepsX C dd v) (hd : flat d = some v) (q : m.rd = true := by rfl) :
    SE C W Γ (tAtX D fI C.K a (.ref Ca) (some dd) (tVar i)) (gAt d) m := by
  intro F H σ ρ L Q hL r k
  have h1 := (r.io _ hio).1
  refine ⟨.ref a, h1, Ca, dd, [("at", v)], v, rfl, rfl, rfl, T, hF _ _ r.fit, by simp [List.lookup], ?_⟩
  exact k.flat r q hd
/-! ### try -/
theorem Takes.len {X : Cx} {W : WX} (t : Takes X W) : Takes X (fun c d σ H => σ.length = X.N.length → W c d σ H) := fun u s' ⟨a, B, sI, pins, σ, H, cls, d, e, I, nb, up, sky, na, os, ag, w⟩ =>
  t u s' ⟨a, B, sI, pins, σ, H, cls, d, e, I, nb, up, sky, na, os, ag, w I.len⟩
/-- the wish in a try's body, for any values of the names -/
abbrev anyS (n : Nat) (W : WX) : XK := fun cls d H => ∀ σ : L2.St, σ.length = n → W cls d σ H
theorem pass_try {X : Cx} {W : WX} {n : Nat} (t : Takes X W) (h : X.N.length = n) : Passes (L2.CX X.prog X.w) X (anyS n W) :=
  passes_call (W := fun c d σ H => σ.length = X.N.length → W c d σ H) (Takes.len t) fun cls d σ H k l => k σ (l.trans h)
def gTry (n : Nat) (gb : GS) (gh : Str → DV → GS) : GS := fun ρ => match gb ρ with
  | .ex c d => if (flat d).isSome = true then (match gh c d (List.replicate n none) with
    | .rt e ρ' => .rt e ρ'
    | _ => .stuck) else .stuck
  | o => o
def tTryX (K : PySem.W.Frag) (cw : Value) (n i : Nat) (tb : XK → TS) (ts : Addr → Value → Option Addr → TS) (Wout : WX) : TS := fun D σ H => tb (anyS n (wAs K cw i ts Wout D)) D σ H
theorem slots_any : ∀ (Γ : List Md) (σ : L2.St), σ.length = Γ.length → Slots C F H Γ σ (List.replicate Γ.length none) []
  | [], [], _ => rfl
  | m :: Γ, s :: σ, h => ⟨[], [], rfl, rfl, slots_any Γ σ (by simpa using h)⟩
  | [], _ :: _, h => by cases h
  | _ :: _, [], h => by cases h
theorem At.same {C C' : Cxt} (hK : C'.K = C.K) (hm : C'.mg = C.mg) (hB : C'.Bp = C.Bp) : ∀ {m : Md} {d : DV} {v : V} {fp : List Addr}, At C F H m d v fp → At C' F H m d v fp := by
  intro m
  induction m with
  | fr | bo | sc =>
    intro d v fp h
    unfold At at h ⊢
    first
      | (rw [hK, hm, hB]; exact h)
      | (rw [hK, hm]; exact h)
      | (rw [hK]; exact h)
  | pk m ih | po m ih | tu m ih =>
    intro d v fp h
    unfold At at h ⊢
    split at h
    · rename_i z
      rw [if_pos z]
      obtain ⟨a, vs, h1, h2, h3⟩ := h
      exact ⟨a, vs, h1, by first | (rw [hK, hm]; exact h2) | (rw [hK]; exact h2), h3.imp fun _ _ _ _ x => ih x⟩
    · rename_i z
      rw [if_neg z, hK, hm]
      exact h
  | own m ih | ob m ih =>
    intro d v fp h
    unfold At at h ⊢
    split at h
    · rename_i z
      rw [if_pos z]
      obtain ⟨a, vs, o, fc, h1, h2, h3, h4, h5, h6, h7⟩ := h
      exact ⟨a, vs, o, fc, h1, h2, by rw [hB]; exact h3, h4, by rw [hm]; exact h5, h6, h7.imp fun _ _ _ _ x => ih x⟩
    · rename_i z
      rw [if_neg z, hK, hm]
      exact h
theorem Slots.same {C C' : Cxt} (hK : C'.K = C.K) (hm : C'.mg = C.mg) (hB : C'.Bp = C.Bp) : ∀ {Γ : List Md} {σ : L2.St} {ρ : EnvD} {fp : List Addr}, Slots C F H Γ σ ρ fp → Slots C' F H Γ σ ρ fp
  | [], [], [], _, h => h
  | m :: Γ, s :: σ, r :: ρ, _, ⟨f1, f2, e, h1, h2⟩ => ⟨f1, f2, e, by
      cases r with
      | none => exact h1
      | some d =>
        obtain ⟨v, e1, e2⟩ := h1
        exact ⟨v, e1, At.same hK hm hB e2⟩, Slots.same hK hm hB h2⟩
  | [], [], _ :: _, _, h => h.elim
  | [], _ :: _, _, _, h => h.elim
  | _ :: _, [], _, _, h => h.elim
  | _ :: _, _ :: _, [], _, h => h.elim
theorem Exs.same {C C' : Cxt} (hK : C'.K = C.K) (hm : C'.mg = C.mg) (hB : C'.Bp = C.Bp) : ∀ {L : List Ent} {fp : List Addr}, Exs C F H L fp → Exs C' F H L fp
  | [], _, h => h
  | (_, _, _) :: _, _, ⟨f1, f2, e, h1, h2⟩ => ⟨f1, f2, e, At.same hK hm hB h1, Exs.same hK hm hB h2⟩
theorem ss_try {cw : Value} {n i : Nat} {ecs : List Str} {tb : XK → TS} {ts : Addr → Value → Option Addr → TS} {Wout : WX} {gb : GS} {gh : Str → DV → GS} {Γh : List Md} (hb : ∀ E, SS C (XO C.mg ecs E) mr Γb Γ (tb E) gb Γ')
    (hcl : ∀ c ∈ ecs, ∀ Ca, C.mg c = some (.ref Ca) → PySem.W.exmOne C.K (.ref Ca) cw = some true)
    (hh : ∀ (F0 : Hp) (c : Str) (d : DV) (v : V) (a Ca dd : Addr), c ∈ ecs → C.mg c = some (.ref Ca) → flat d = some v → KeepsX ⟨C.K, C.mg, C.Bp, F0, [(i, .ref a, .fr)]⟩ dd v → ∃ Γ2, SS ⟨C.K, C.mg, C.Bp, F0, [(i, .ref a, .fr)]⟩ W0 mr [] Γh (ts a (.ref Ca) (some dd)) (gh c d) Γ2)
    (hn : Γh.length = n) (hi : Γh[i]? = some .fr) (hio : C.io = []) : SS C W mr Γb Γ (tTryX C.K cw n i tb ts Wout) (gTry n gb gh) Γ' := by
  intro F H σ ρ L Dn hs r k
  refine hb (anyS n (wAs C.K cw i ts Wout Dn)) F H σ ρ L Dn hs r ?_
  unfold gTry at k
  revert k
  cases eb : gb ρ with
  | nx ρ' => exact fun k => k
  | rt d ρ' => exact fun k => k
  | bk ρ' => exact fun k => k
  | ct ρ' => exact fun k => k
  | stuck => exact fun k => k
  | ex c d =>
    intro k F1 H1 s1 f1 hc Ca dd v hm hv hd σ1 l1
    have k : PS' C W mr Γb Γ' F H L Dn (if (flat d).isSome = true then (match gh c d (List.replicate n none) with
      | .rt e ρ' => .rt e ρ'
      | _ => .stuck) else .stuck) := k
    rw [if_pos (by rw [hv]; rfl)] at k
    refine ⟨true, hcl c hc Ca hm, fun _ a na => ?_, fun z => nomatch z⟩
    have lΓ : σ.length = Γ.length := by
      obtain ⟨f1, f2, _, hS, _⟩ := r.own
      exact hS.len.1
    have sl : σ1.length = n := l1
    have key : ∃ F2, Same F1 F2 ∧ Same F2 H1 ∧ (∀ a, F2 a ≠ none → C.F0 a ≠ none ∨ C.Bp a = none ∨ ∃ o, C.Bp a = some o ∧ tupO o = true) ∧ (F2 dd = some (.xd [("at", v)]) ∨ C.Bp dd = some (.xd [("at", v)])) := by
      cases e : C.Bp dd with
      | some o =>
        have z := f1.bh _ _ e
        rw [hd] at z
        cases z
        exact ⟨F1, Same.refl _, f1.fh, f1.f0, .inr rfl⟩
      | none =>
        refine ⟨upd F1 dd (.xd [("at", v)]), fun b o h => ?_, fun b o h => ?_, fun b h => ?_, .inl upd_same⟩
        · by_cases hb : b = dd
          · subst hb
            have z := f1.fh _ _ h
            rw [hd] at z
            cases z
            exact upd_same
          · rw [upd_ne hb]
            exact h
        · by_cases hb : b = dd
          · subst hb
            rw [upd_same] at h
            cases h
            exact hd
          · rw [upd_ne hb] at h
            exact f1.fh _ _ h
        · by_cases hb : b = dd
          · subst hb
            exact .inr (.inl e)
          · rw [upd_ne hb] at h
            exact f1.f0 _ h
    obtain ⟨F2, s2, s3, f0, hk⟩ := key
    have hK : KeepsX ⟨C.K, C.mg, C.Bp, F2, [(i, .ref a, .fr)]⟩ dd v := fun F3 H3 f3 => by
      rcases hk with z | z
      · exact f3.fh _ _ (f3.ff _ _ z)
      · exact f3.bh _ _ z
    obtain ⟨Γ2, hss⟩ := hh F2 c d v a Ca dd hc hm hv hK
    have back : ∀ {F3 H3 : Hp}, Fit ⟨C.K, C.mg, C.Bp, F2, [(i, .ref a, .fr)]⟩ F3 H3 → Fit C F3 H3 := fun {F3 H3} f3 => by
      refine ⟨(f1.ff.trans s2).trans f3.ff, f3.fh, f3.bh, fun b h => ?_, f3.tp⟩
      rcases f3.f0 b h with z | z
      · exact f0 b z
      · exact .inr z
    have hil : i < σ1.length := by
      rw [sl, ← hn]
      exact (List.getElem?_eq_some_iff.mp hi).1
    have rep : Rep ⟨C.K, C.mg, C.Bp, F2, [(i, .ref a, .fr)]⟩ F2 H1 Γh (σ1.set i (some (.ref a))) (List.replicate n none) [] := by
      refine ⟨⟨Same.refl _, s3, f1.bh, fun b h => .inl h, fun b o h q => s2 _ _ (f1.tp b o h q)⟩, fun p hp => ?_, [], [], List.nodup_nil, ?_, rfl⟩
      · rcases List.mem_cons.mp hp with rfl | hp
        · exact ⟨List.getElem?_set_self hil, hi⟩
        · cases hp
      · rw [← hn]
        exact slots_any Γh _ (by rw [List.length_set, sl, hn])
    refine hss F2 H1 _ _ [] _ rfl rep ?_
    revert k
    cases gh c d (List.replicate n none) with
    | rt e ρ' =>
      intro k F3 H3 Γr σ3 L3 v3 s4 r3
      have r4 : Rep C F3 H3 Γr σ3 ρ' ((mr, e, v3) :: L3) := by
        obtain ⟨g1, g2, nd, hS, hE⟩ := r3.own
        refine ⟨back r3.fit, fun p hp => ?_, g1, g2, nd, Slots.same (C := ⟨C.K, C.mg, C.Bp, F2, [(i, .ref a, .fr)]⟩) (C' := C) rfl rfl rfl hS, Exs.same (C := ⟨C.K, C.mg, C.Bp, F2, [(i, .ref a, .fr)]⟩) (C' := C) rfl rfl rfl hE⟩
        rw [hio] at hp
        cases hp
      exact k F3 H3 Γr σ3 L3 v3 ((s1.trans s2).trans s4) r4
    | _ => exact fun k => k.elim
end
end DL
end

/-! text DX2 -/
section
set_option maxRecDepth 100000
set_option maxHeartbeats 4000000
/-! own exceptions, part 2: defs that let them out -/
namespace DL
open PySem PySem.Spec PyProof.Rows L2
section
/-- THE RULE of a def, whatever it lets out -/
theorem fnDX {P : Program} {w : World} {CX : CXT} {XW : XK → Wx} {K : PySem.W.Frag} {mg : Str → Option Value} {base : Heap} {k : Nat} {x qual : Str} {st : Stmt} {f : Addr} {fd : FuncData} {N ps : List Str} {pm Γl : List Md} {mr : Md} {g : GS}
    (Fn : FunD K x qual (defArgs st) (defBody st) (defScope st) [] [] f fd) (S : FnScope N ps (defScope st)) (hp : pm.length = ps.length) (hN : pm.length + Γl.length = N.length) (qr : mr.rd = true)
    (hb : ∀ (cdv : Value) (A : Around) (outer : List PySem.Env) (s : Shared) (H : Hp) (E : XK), Room k (A.deeper (envOfC qual (defScope st) s.heap.objs.size f cdv)) →
      ∃ t, PSs (cxOf CX P w K mg base N qual (defScope st) f cdv A outer s H E) (defBody st) t ∧ ∀ (Bp F0 : Hp), ∃ Γ', SS ⟨K, mg, Bp, F0, []⟩ (XW E) mr [] (pm ++ Γl) t g Γ') :
    FnOk P w K mg base CX (k + 1) f fd ps (spD K mg XW pm mr (runB g N.length)) := by
  refine Fn.ok S (fun vs H Q E h => ?_) fun cdv A outer s H vs Q E hr h => ?_
  · obtain ⟨F, ds, _, h2, _⟩ := h
    rw [h2.len.2, hp]
  · obtain ⟨F, ds, h1, h2, h3⟩ := h
    obtain ⟨t, ht, hs⟩ := hb cdv A outer s H E hr
    obtain ⟨l1, l2⟩ := h2.len
    obtain ⟨Γ', hs⟩ := hs H F
    refine ⟨t, ht, hs F H (start N vs) (startD N.length ds) [] _ rfl ?_ ?_⟩
    · refine ⟨h1, fun p hp => (by cases hp), [], [], List.nodup_nil, ?_, rfl⟩
      unfold L2.start startD
      rw [l1, l2, show N.length - pm.length = Γl.length by omega]
      exact slots_start Γl h2
    · unfold runB at h3
      revert h3
      cases g (startD N.length ds) with
      | nx ρ' => exact fun h3 F1 H1 σ1 s1 r1 => h3 F1 H1 .non [] s1 r1.fit (At.flat qr rfl) List.nodup_nil
      | rt d ρ' =>
        intro h3 F1 H1 Γr σ1 L1 v s1 r1
        obtain ⟨f1, f2, nd, a, g1, g2, e1, e2, e3⟩ := r1.own
        subst e1
        exact h3 F1 H1 v g1 s1 r1.fit e2 (nd.sublist (List.Sublist.trans (List.sublist_append_left _ _) (List.sublist_append_right _ _)))
      | bk ρ' => exact fun h => h.elim
      | ct ρ' => exact fun h => h.elim
      | ex c d => exact fun h3 F1 H1 s1 f1 => h3 F1 H1 s1 f1
      | stuck => exact fun h => h
theorem law_endX {XW : XK → Wx} {K : PySem.W.Frag} {mg : Str → Option Value} {f : List DV → Rs DV} {H : Hp} {a : Addr} {ns : List Int} {E : XK} (h : f [.lst (ns.map .int)] = .ok (.bl true)) (hS : SqL K H a (ns.map V.int)) : spD K mg XW [.sc] .fr f [.ref a] H (fun v _ => v = .bl true) E := by
  refine ⟨H, [.lst (ns.map .int)], ⟨Same.refl _, Same.refl _, Same.refl _, fun a h => .inl h, fun a o h _ => h⟩, ⟨⟨rfl, a, ns, rfl, rfl, hS⟩, trivial⟩, ?_⟩
  rw [h]
  exact fun F' H' v fp _ _ h _ => h.2
/-- what the text says of the root of the own exceptions: its class at D, its __init__ at fI -/
structure XIn (P : Program) (K : PySem.W.Frag) (mg : Str → Option Value) where
  D : Addr
  fI : Addr
  fd : FuncData
  ok : ∀ (w : World) (base : Heap) (k : Nat), FnOk P w K mg base C8.CX0 (k + 1) fI fd ["self", "at"] (spI K D)
  b : Binds K fd ["self", "at"] []
  t : PySem.W.typeIn K (.ref fI) = some (.type "function")
theorem kx_raise {X : Cx} {P : Program} {K : PySem.W.Frag} {mg : Str → Option Value} {j : Nat} {x : Str} {Ca : Addr} {p pos pos2 : Pos} {e : Expr} {es : List Expr} {ta : TA} {E : XK} (hK : X.K = K) (hP : X.prog = P) (hG : X.mg = mg) (I : XIn P K mg) (T : ExF K I.D I.fI Ca) (hr : Room j X.A) (h2 : 2 ≤ j)
    (hm : mg x = some (.ref Ca)) (hg : Gl X x) (hc : X.calm = true) (tk : Takes X (fun cls d _ H => E cls d H)) (ha : PA X (e :: es) ta) (hdb : (x == ("__debug__" : Str)) = false := by decide)
    (he : starEach (e :: es) X.env = (false, eval e X.env) :: starEach es X.env := by rfl) (hpl : (backTo pos (starEach es X.env)).any (·.1) = false := by rfl) :
    PS X (.Raise (some (.Call (.Name x p) (e :: es) [] pos)) none pos2) (tRaiseO K Ca I.D ta E) := by
  subst hK hP hG
  exact ps_raise (W := fun cls d _ H => E cls d H) hc tk (pmk_oex (k := 1) T.oc T.ini I.t (I.ok X.w X.base 0) (hr.mono h2) I.b .nil (fun _ _ _ _ _ _ _ h => h.elim) hg hm ha hdb he hpl)
/-- what a def of this context lets out -/
theorem px0 {P : Program} {w : World} {K : PySem.W.Frag} {mg : Str → Option Value} {base : Heap} {N : List Str} {qual : Str} {sc : Scope} {f : Addr} {cdv : Value} {A : Around} {outer : List PySem.Env} {s : Shared} {H : Hp} {E : XK} :
    Passes (L2.CX P w) (cxOf (L2.CX P w) P w K mg base N qual sc f cdv A outer s H E) E := passes_call (W := fun cls d _ H => E cls d H) (takes_of rfl rfl rfl rfl) fun _ _ _ _ h => h
theorem tk0 {P : Program} {w : World} {K : PySem.W.Frag} {mg : Str → Option Value} {base : Heap} {N : List Str} {qual : Str} {sc : Scope} {f : Addr} {cdv : Value} {A : Around} {outer : List PySem.Env} {s : Shared} {H : Hp} {E : XK} :
    Takes (cxOf (L2.CX P w) P w K mg base N qual sc f cdv A outer s H E) (fun cls d _ H => E cls d H) := takes_of rfl rfl rfl rfl
def EN : XK := fun _ _ _ => False
/-- nothing of it comes out -/
theorem passN {X : Cx} : Passes (L2.CX X.prog X.w) X EN := fun _ _ _ _ _ _ _ ⟨_, _, _, _, _, _, _, _, _, _, _, _, h⟩ => h.elim
/-- no exception is taken further -/
theorem takesN {X : Cx} : Takes X (fun _ _ _ _ => False) := fun _ _ ⟨_, _, _, _, _, _, _, _, _, _, _, _, _, _, _, _, h⟩ => h.elim
theorem hxN {mg : Str → Option Value} {ecs : List Str} : ∀ (c : Str) (d : DV) (H' : Hp), W0 c d H' → XO mg ecs EN c d H' := fun _ _ _ h => h.elim
theorem hxI {W : Wx} : ∀ (c : Str) (d : DV) (H' : Hp), W c d H' → W c d H' := fun _ _ _ h => h
def gNX (g : GE) : GE := fun ρ => match g ρ with
  | .ok d => .ok d
  | _ => .stuck
theorem se_nx {C : Cxt} {W : Wx} {Γ : List Md} {t : TE} {g : GE} {m : Md} (h : SE C W0 Γ t g m) : SE C W Γ t (gNX g) m := by
  intro F H σ ρ L Q hL r k
  refine h F H σ ρ L Q hL r ?_
  unfold gNX at k
  revert k
  cases g ρ with
  | ok d => exact fun k => k
  | ex c d => exact fun k => k.elim
  | stuck => exact fun k => k
theorem nio1 {i j : Nat} {v : V} {m : Md} (h : i ≠ j) : ∀ p ∈ [(i, v, m)], p.1 ≠ j := fun p hp => by
  rcases List.mem_cons.mp hp with rfl | hp
  · exact h
  · cases hp
theorem nth_mem {xs : List Str} {x : Str} (i : Nat) (h : xs[i]? = some x) : x ∈ xs := List.mem_of_getElem? h
/-- try: body / except x as n: suite, nothing taken further -/
theorem kx_try {X : Cx} {K : PySem.W.Frag} {x nm : Str} {cw : Value} {n i : Nat} {body suite : List Stmt} {b₀ : Stmt} {np pos pos' : Pos} {tb : XK → TS} {ts : Addr → Value → Option Addr → TS} (hK : X.K = K) (hs : X.stack = X.env :: X.outer) (hf : X.env.frame = some X.env.locals) (hN : X.N.Nodup) (hn : X.N.length = n)
    (hi : X.N[i]? = some nm) (hln : X.env.kindOf nm = some .local) (hg : Gl X x) (hd : (x == ("__debug__" : Str)) = false) (hm : X.mg x = some cw)
    (hb : ∀ (E : XK) (pn : List (Addr × Obj)) (xe : Value → Shared → Prop), Passes (L2.CX X.prog X.w) (X.tr pn xe) E → PassesOwn (model X.prog X.w) X.A X.env xe → PSs (X.tr pn xe) body (tb E))
    (hsu : ∀ (a : Addr) (oe : Obj) (cls : Value) (d : Option Addr) (pn : List (Addr × Obj)), Zc cls d oe → (∃ vs, oe.data = .fields vs) → PSs (X.suite a ((a, oe) :: pn)) (b₀ :: suite) (ts a cls d)) :
    PS X (.Try body [.ExceptHandler (some (.Name x np)) (some nm) (b₀ :: suite) pos'] [] [] pos) (tTryX K cw n i tb ts (fun _ _ _ _ => False)) := by
  subst hK
  exact ps_try_as (tb := fun W => tb (anyS n W)) hs hf hN hi hln ⟨hg, hd, .inl hm⟩ takesN (fun W pn xe t pw => hb (anyS n W) pn xe (pass_try t hn) pw) hsu
/-! a choice as a test -/
def tIfT (c a b : TT) : TT := fun σ H Q => c σ H fun z H1 => if z = true then a σ H1 Q else b σ H1 Q
theorem pt_ifT {X : Cx} {c a b : Expr} {tc ta tb : TT} {pos : Pos} (hc : PT X c tc) (ha : PT X a ta) (hb : PT X b tb) : PT X (.IfExp c a b pos) (tIfT tc ta tb) := by
  refine ⟨fun pins s σ H Q I h => ?_⟩
  unfold PySem.isTrue
  refine wpAny_bind (thn (hc.run pins s σ H _ I h) fun z s1 k => ?_)
  obtain ⟨H1, I1, q⟩ := k
  cases z with
  | true => exact ha.run pins s1 σ H1 Q I1 q
  | false => exact hb.run pins s1 σ H1 Q I1 q
def gIfT (c a b : GT) : GT := fun ρ => (c ρ).bind fun z => if z = true then a ρ else b ρ
theorem st_ifT {C : Cxt} {W : Wx} {Γ : List Md} {t ta tb : TT} {f ga gb : GT} (h : ST C W Γ t f) (ha : ST C W Γ ta ga) (hb : ST C W Γ tb gb) : ST C W Γ (tIfT t ta tb) (gIfT f ga gb) := by
  intro F H σ ρ L Q hL r k
  show t σ H fun c H1 => if c = true then ta σ H1 Q else tb σ H1 Q
  refine st_thenT h hL r k fun z F1 H1 s1 s2 r1 k1 => ?_
  cases z with
  | true => rw [if_pos rfl] at k1 ⊢; exact ha F1 H1 σ ρ L Q hL r1 k1
  | false => rw [if_neg Bool.false_ne_true] at k1 ⊢; exact hb F1 H1 σ ρ L Q hL r1 k1
end
end DL
end

/-! text DX3 -/
section
set_option maxRecDepth 100000
set_option maxHeartbeats 4000000
/-! own exceptions, part 3: what the written part must say, as tests -/
namespace DL
open PySem PySem.Spec PyProof.Rows L2
def eqV (o : Option (Option Value)) (v : Option (Option Value)) : Bool := decide (o = v)
theorem band {a b : Bool} (h : (a && b) = true) : a = true ∧ b = true := (Bool.and_eq_true _ _).mp h
def iniAt (K : PySem.W.Frag) (x : Str) : Addr := match PySem.W.findIn K (.ref (He.ga K x)) "__init__" with
  | some (some (.ref f)) => f
  | _ => 0
abbrev IniW : Type := Option (Str × Str × Arguments × FuncBody × Scope × Addr × Addr)
def iniW (K : PySem.W.Frag) (x : Str) : IniW := match K.lookup (iniAt K x) with
  | some ⟨_, _, .func fd, _⟩ => some (fd.name, fd.qualname, fd.params, fd.body, fd.scope, fd.globals, fd.builtins)
  | _ => none
/-- the code object of the file pf -/
def codF (K : PySem.W.Frag) (pf : Str) (cda : Addr) : Bool := match K.lookup cda with
  | some ⟨_, _, .fields vs, _⟩ => (match (vs[2]? : Option Value) with
    | some (.str file _) => pf == file
    | _ => false)
  | _ => false
/-- the cell of the class D -/
def celF (K : PySem.W.Frag) (D cc : Addr) : Bool := match K.lookup cc with
  | some ⟨_, _, .cell (some (.ref E)), _⟩ => decide (E = D)
  | _ => false
def noneV : Value → Bool
  | .none => true
  | _ => false
theorem noneV_ok {v : Value} (h : noneV v = true) : v = .none := by
  cases v <;> first | rfl | cases h
def iniB (x pf : Str) (K : PySem.W.Frag) : Bool := match K.lookup (iniAt K x) with
  | some ⟨_, _, .func fd, _⟩ => (match fd.closure, fd.code with
    | [(cn, cc)], .ref cda => noneV fd.defaults && (decide (cn = ("__class__" : Str)) && (PySem.W.codeIn K (.ref cda) fd.qualname && (codF K pf cda && (celF K (He.ga K x) cc && ((PySem.W.clsIn K (He.ga K x)).isSome && decide (PySem.W.typeIn K (.ref (iniAt K x)) = some (.type "function")))))))
    | _, _ => false)
  | _ => false
def thpB (K : PySem.W.Frag) : Bool := eqV (PySem.W.nsIn K cStatics "thirdparty.any") (some none)
theorem init_of {P : Program} {K : PySem.W.Frag} {mg : Str → Option Value} {x qual : Str} {params : Arguments} {ar : Arg} {p0 p1 p2 p3 p4 p5 p6 p7 p8 p9 : Pos}
    (e : iniW K x = (some (("__init__" : Str), qual, params, FuncBody.stmts (exBody p0 p1 p2 p3 p4 p5 p6 p7 p8 p9), exScope, mainGlobals, builtinsNs) : IniW)) (q : iniB x P.main.file K = true) (ha : thpB K = true) (hsu : mg "super" = none) (htop : (P.main.scope.names.lookup ("super" : Str)).isSome = false)
    (hpar : (params.posonlyargs ++ params.args).head? = some ar) (har : ar.arg = ("self" : Str))
    (hb : ∀ (kV doc pm ct : Value) (an : Option Addr) (cda cc : Addr) (u v : Value), bindArgs (PySem.W.ksFn "__init__" qual params (exBody p0 p1 p2 p3 p4 p5 p6 p7 p8 p9) exScope .none kV doc pm an (.ref cda) ct cc) ⟨[u, v], []⟩ = pure [(("self" : Str), u), (("at" : Str), v)])
    (hev : ∀ (L fI cda cc : Addr), ∃ pl : Sem Bool, eval (.Call (.Attribute (.Call (.Name "super" p0) [] [] p1) "__init__" p2) [.Name "at" p3] [] p4) (inEnv qual L fI (.ref cda) cc) = (do
        let ov ← attributeBase (.Call (.Name "super" p0) [] [] p1) "__init__" (inEnv qual L fI (.ref cda) cc) (eval (.Call (.Name "super" p0) [] [] p1) (inEnv qual L fI (.ref cda) cc))
        standAt p2.atName
        let (f, first) ← holding [ov] (getMethod ov "__init__" pl)
        callWith p4 f first (backTo p4 (starEach [.Name "at" p3] (inEnv qual L fI (.ref cda) cc))) [])) :
    ∃ I : XIn P K mg, I.D = He.ga K x ∧ I.fI = iniAt K x := by
  unfold iniB at q
  unfold iniW at e
  cases lk : K.lookup (iniAt K x) with
  | none => rw [lk] at q; cases q
  | some o =>
    obtain ⟨oc, od, dt, osl⟩ := o
    rw [lk] at q e
    cases dt with
    | func fd =>
      obtain ⟨n1, n2, n3, n4, n5, n6, n7, n8, n9, n10, n11, n12, n13, n14, n15⟩ := fd
      have e2 : (some (n1, n2, n3, n4, n5, n6, n15) : IniW) = some (("__init__" : Str), qual, params, FuncBody.stmts (exBody p0 p1 p2 p3 p4 p5 p6 p7 p8 p9), exScope, mainGlobals, builtinsNs) := e
      simp only [Option.some.injEq, Prod.mk.injEq] at e2
      obtain ⟨h1, h2, h3, h4, h5, h6, h7⟩ := e2
      subst h1 h2 h3 h4 h5 h6 h7
      dsimp only at q
      split at q
      · rename_i cn cc cda
        obtain ⟨q0, r0⟩ := band q
        have e0 := noneV_ok q0
        subst e0
        clear q
        obtain ⟨q1, q⟩ := band r0
        obtain ⟨q2, q⟩ := band q
        obtain ⟨q3, q⟩ := band q
        obtain ⟨q4, q⟩ := band q
        obtain ⟨q5, q6⟩ := band q
        have ecn := of_decide_eq_true q1
        subst ecn
        unfold codF at q3
        split at q3
        · rename_i ccl cdd vs ccs lc
          split at q3
          · rename_i file tf hvs
            unfold celF at q4
            split at q4
            · rename_i cl cld E csl lcc
              have eD := of_decide_eq_true q4
              subst eD
              obtain ⟨cdD, hD⟩ := Option.isSome_iff_exists.mp q5
              refine ⟨⟨_, iniAt K x, _, fun w base k => sup_init (k := k) lk q2 lc hvs q3 lcc hD hsu (of_decide_eq_true ha) htop hpar har (fun L => hev L _ _ _), ?_, of_decide_eq_true q6⟩, rfl, rfl⟩
              refine Binds.all fun us hl => ?_
              match us, hl with
              | [u, v], _ => exact hb _ _ _ _ _ _ _ u v
            · cases q4
          · cases q3
        · cases q3
      · cases q
    | _ => cases q
/-! the own exception classes -/
def excB (K : PySem.W.Frag) (C : Addr) : Bool := match K.lookup C with
  | some ⟨.type t, _, .cls cd, sl⟩ => decide (t = "type") && (match cd.mro, sl.toList with
    | .ref C' :: bm, [_, _, _, _, some (.builtin n), _] => decide (C' = C) && (decide (n = "ValueError.__new__") && (!cd.hasDel && (cd.hasDict && PySem.HandSPX.refsVE bm)))
    | _, _ => false)
  | _ => false
theorem excB_ok {K : PySem.W.Frag} {C : Addr} (h : excB K C = true) : ∃ nm q N bs bm sn sub ab col dd k0 k1 k2 k3 k5, K.lookup C = some (excClassObj nm q C N bs bm true sn sub ab col dd k0 k1 k2 k3 k5 "ValueError.__new__") ∧ PySem.HandSPX.refsVE bm = true := by
  unfold excB at h
  split at h
  · rename_i t dd cd sl lk
    obtain ⟨h1, h⟩ := band h
    have e1 := of_decide_eq_true h1
    subst e1
    split at h
    · rename_i C' bm k0 k1 k2 k3 n k5 hm hs
      obtain ⟨_, h⟩ := band h
      obtain ⟨h1, h⟩ := band h
      obtain ⟨h2, h⟩ := band h
      obtain ⟨h3, h⟩ := band h
      obtain ⟨h4, h5⟩ := band h
      have e1 := of_decide_eq_true h1
      have e2 := of_decide_eq_true h2
      subst e1 e2
      obtain ⟨c1, c2, c3, c4, c5, c6, c7, c8, c9, c10, c11⟩ := cd
      dsimp only at hm h3 h4
      subst hm h4
      have e3 : c11 = false := by simpa using h3
      subst e3
      obtain ⟨l⟩ := sl
      have e4 : l = _ := hs
      subst e4
      exact ⟨_, _, _, _, _, _, _, _, _, _, _, _, _, _, _, lk, h5⟩
    · cases h
  · cases h
def exfB (x c : Str) (K : PySem.W.Frag) : Bool := excB K (He.ga K c) && (eqV (PySem.W.findIn K (.ref (He.ga K c)) "__setattr__") (some (some (.builtin "object.__setattr__"))) && (decide (PySem.W.subIn K (.ref (He.ga K c)) (.type "BaseException") = some true) &&
  (decide (PySem.W.typeIn K (.ref (He.ga K c)) = some (.type "type")) && (PySem.W.keepIn K (.ref (He.ga K c)) && (decide (PySem.W.mroIn K (He.ga K c) (.ref (He.ga K x)) = some true) && (decide (PySem.W.subIn K (.ref (He.ga K c)) (.type "ValueError") = some true) &&
  (eqV (PySem.W.ks_superIn K (He.ga K c) (He.ga K x) "__init__") (some (some (.builtin "ValueError.__init__"))) && (eqV (PySem.W.findIn K (.ref (He.ga K c)) "at") (some none) && (eqV (PySem.W.findIn K (.ref (He.ga K c)) "__init__") (some (some (.ref (iniAt K x)))) &&
  (xfB K (He.ga K c) && (eqV (PySem.W.findIn K (.ref (He.ga K c)) "__class__") (some (some (.builtin "object.__class__"))) && (eqV (PySem.W.specialIn K (.builtin "object.__class__") "__get__") (some (some (.builtin "getset_descriptor.__get__"))) &&
  (decide (PySem.W.takesIn K (.builtin "object.__class__") = some true) && decide (PySem.W.mroIn K (He.ga K c) (.type "object") = some true))))))))))))))
theorem exfB_ok {K : PySem.W.Frag} {x c : Str} (h : exfB x c K = true) : ExF K (He.ga K x) (iniAt K x) (He.ga K c) := by
  obtain ⟨a1, h⟩ := band h
  obtain ⟨a2, h⟩ := band h
  obtain ⟨a3, h⟩ := band h
  obtain ⟨a4, h⟩ := band h
  obtain ⟨a5, h⟩ := band h
  obtain ⟨a6, h⟩ := band h
  obtain ⟨a7, h⟩ := band h
  obtain ⟨a8, h⟩ := band h
  obtain ⟨a9, h⟩ := band h
  obtain ⟨a10, h⟩ := band h
  obtain ⟨a11, h⟩ := band h
  obtain ⟨a12, h⟩ := band h
  obtain ⟨a13, h⟩ := band h
  obtain ⟨a14, a15⟩ := band h
  exact ⟨⟨excB_ok a1, of_decide_eq_true a2, of_decide_eq_true a3, of_decide_eq_true a4, a5⟩, of_decide_eq_true a6, of_decide_eq_true a7, of_decide_eq_true a8, of_decide_eq_true a9, of_decide_eq_true a10, xfB_ok a11, of_decide_eq_true a12, of_decide_eq_true a13, of_decide_eq_true a14, of_decide_eq_true a15⟩
def gloB (ecs : List Str) (K : PySem.W.Frag) : Bool := ecs.all fun c => (He.Fa.glo c).ok K
def clsB (x : Str) (ecs : List Str) (K : PySem.W.Frag) : Bool := ecs.all fun c => exfB x c K
def exmB (x : Str) (ecs : List Str) (K : PySem.W.Frag) : Bool := ecs.all fun c => decide (PySem.W.exmOne K (.ref (He.ga K c)) (.ref (He.ga K x)) = some true)
def isB (ecs : List Str) (K : PySem.W.Frag) : Bool := ecs.all fun c => ecs.all fun y => decide (PySem.W.kitOne K (.ref (He.ga K c)) (.ref (He.ga K y)) = some (decide (c = y)))
section
variable {K : PySem.W.Frag} {h : Heap} {mg : Str → Option Value} {x : Str} {ecs : List Str}
theorem glo_at (X : K.In h) (G : h.Ns mainGlobals mg) (q : gloB ecs K = true) {c : Str} (hc : c ∈ ecs) : mg c = some (.ref (He.ga K c)) := He.glo_ok X G (List.all_eq_true.mp q c hc)
theorem glo_eq (X : K.In h) (G : h.Ns mainGlobals mg) (q : gloB ecs K = true) {c : Str} (hc : c ∈ ecs) {Ca : Addr} (e : mg c = some (.ref Ca)) : Ca = He.ga K c := by
  rw [glo_at X G q hc] at e
  cases e
  rfl
theorem cls_at (X : K.In h) (G : h.Ns mainGlobals mg) (q : gloB ecs K = true) (q2 : clsB x ecs K = true) : ∀ c ∈ ecs, ∀ Ca, mg c = some (.ref Ca) → ExF K (He.ga K x) (iniAt K x) Ca := fun c hc Ca e => by
  rw [glo_eq X G q hc e]
  exact exfB_ok (List.all_eq_true.mp q2 c hc)
theorem exm_at (X : K.In h) (G : h.Ns mainGlobals mg) (q : gloB ecs K = true) (q2 : exmB x ecs K = true) : ∀ c ∈ ecs, ∀ Ca, mg c = some (.ref Ca) → PySem.W.exmOne K (.ref Ca) (.ref (He.ga K x)) = some true := fun c hc Ca e => by
  rw [glo_eq X G q hc e]
  exact of_decide_eq_true (List.all_eq_true.mp q2 c hc)
theorem is_at (X : K.In h) (G : h.Ns mainGlobals mg) (q : gloB ecs K = true) (q2 : isB ecs K = true) : ∀ c ∈ ecs, ∀ Ca, mg c = some (.ref Ca) → ∀ y ∈ ecs, ∀ Ya, mg y = some (.ref Ya) → PySem.W.kitOne K (.ref Ca) (.ref Ya) = some (decide (c = y)) := fun c hc Ca e y hy Ya e2 => by
  rw [glo_eq X G q hc e, glo_eq X G q hy e2]
  exact of_decide_eq_true (List.all_eq_true.mp (List.all_eq_true.mp q2 c hc) y hy)
end
end DL
end

/-! text DO0 -/
section
set_option maxRecDepth 100000
set_option maxHeartbeats 4000000
/-! objects: fields, making, methods; an object is frozen behind its __init__ -/
namespace DL
open PySem PySem.Spec PyProof.Rows L2
section
variable {C : Cxt} {W : Wx} {F F' H H' : Hp} {Γ Γb Γ' : List Md} {σ : L2.St} {ρ : EnvD} {L : List Ent} {m ma mb mr me mi : Md} {d : DV} {v : V} {Dn : Ends}
/-! ### a field is read -/
@[reducible] def Md.fld : Md → Bool
  | .fr => true
  | .bo => true
  | .po .fr => true
  | _ => false
theorem Rep.flds {c : Str} {ns : List Str} {ds : List DV} (r : Rep C F H Γ σ ρ ((m, .obj c ns ds, v) :: L)) (q : m.fld = true) :
    ∃ a Ca dx vs, v = .ref a ∧ C.mg c = some (.ref Ca) ∧ H a = some (.ins Ca dx (ns.zip vs)) ∧ ns.length = vs.length ∧ Alls (At C F H m.kid) ds vs [] := by
  obtain ⟨f, h⟩ := r.head
  match m, q, h with
  | .fr, _, h =>
    obtain ⟨a, vs, h1, ⟨Ca, dx, h2, h3, h4⟩, h5⟩ := h.2
    exact ⟨a, Ca, dx, vs, h1, h2, r.fit.fh _ _ h3, h4, h5.at fun d v x => ⟨rfl, x⟩⟩
  | .bo, _, h =>
    obtain ⟨a, vs, h1, ⟨Ca, dx, h2, h3, h4⟩, h5⟩ := h.2
    exact ⟨a, Ca, dx, vs, h1, h2, r.fit.bh _ _ h3, h4, Alls.of_das h5 fun d v x => ⟨rfl, x⟩⟩
  | .po .fr, _, h =>
    unfold At at h
    rw [if_pos (show isObj (.obj c ns ds) = true from rfl)] at h
    obtain ⟨a, vs, h1, h2, h3⟩ := h
    obtain ⟨Ca, dx, g1, g2, g3⟩ := h2
    exact ⟨a, Ca, dx, vs, h1, g1, g2, g3, h3.pt fun d v f x => ⟨rfl, x.2⟩⟩
theorem Alls.lookup {R : DV → V → List Addr → Prop} {f : Str} {d : DV} : ∀ {ns : List Str} {ds : List DV} {vs : List V}, Alls R ds vs [] → (ns.zip ds).lookup f = some d → ∃ v, (ns.zip vs).lookup f = some v ∧ R d v []
  | [], _, _, _, e => by simp at e
  | n :: ns, [], _, _, e => by simp at e
  | n :: ns, d1 :: ds, _, ⟨v, r, f1, f2, h1, h2, h3, h4⟩, e => by
    subst h1
    have e1 : f1 = [] := (List.append_eq_nil_iff.mp h2.symm).1
    have e2 : f2 = [] := (List.append_eq_nil_iff.mp h2.symm).2
    subst e1
    subst e2
    rw [List.zip_cons_cons, List.lookup_cons] at e ⊢
    cases z : f == n with
    | true =>
      rw [z] at e
      cases e
      exact ⟨v, rfl, h3⟩
    | false =>
      rw [z] at e
      exact Alls.lookup h4 e
def gFld (c f : Str) (g : GE) : GE := fun ρ => (g ρ).bind fun d => match d with
  | .obj c' ns ds => if c' = c then ofO ((ns.zip ds).lookup f) else .stuck
  | _ => .stuck
theorem se_fld {c f : Str} {Ca : Addr} {t : TE} {g : GE} (h : SE C W Γ t g m) (hm : C.mg c = some (.ref Ca)) (hc : Cls C.K Ca) (hn : NoAttr C.K Ca f) (q : m.fld = true := by rfl) : SE C W Γ (tFld C.K t f) (gFld c f g) m.kid := by
  intro F H σ ρ L Q hL r k
  show t σ H fun x H1 => ∃ a C' dx fs v, x = .ref a ∧ H1 a = some (.ins C' dx fs) ∧ Cls C.K C' ∧ NoAttr C.K C' f ∧ fs.lookup f = some v ∧ Q v H1
  refine se_then h hL r k fun d F1 H1 x s1 s2 r1 k1 => ?_
  cases d with
  | obj c' ns ds =>
    replace k1 : PE' C W Γ F1 H1 σ ρ L m.kid Q (if c' = c then ofO ((ns.zip ds).lookup f) else .stuck) := k1
    split at k1
    · rename_i hz
      subst hz
      obtain ⟨a, Cb, dx, vs, e1, e2, e3, e4, e5⟩ := r1.flds q
      rw [hm] at e2
      cases e2
      cases e : (ns.zip ds).lookup f with
      | none => rw [e] at k1; exact k1.elim
      | some d =>
        rw [e] at k1
        obtain ⟨v, l1, l2⟩ := e5.lookup e
        exact ⟨a, Ca, dx, _, v, e1, e3, hc, hn, l1, PE'.give r1.tail k1 l2⟩
    · exact k1.elim
  | _ => exact k1.elim
/-! ### self.f = e, in __init__ -/
theorem putF_new {f : Str} {y : V} : ∀ {ns : List Str} {vs : List V}, f ∉ ns → ns.length = vs.length → putF f y (ns.zip vs) = (ns ++ [f]).zip (vs ++ [y])
  | [], [], _, _ => rfl
  | n :: ns, w :: vs, h, e => by
    have h1 : n ≠ f := fun z => h (z ▸ List.mem_cons_self)
    rw [List.zip_cons_cons, List.cons_append, List.cons_append, List.zip_cons_cons]
    unfold putF
    rw [if_neg h1, putF_new (fun z => h (List.mem_cons_of_mem _ z)) (by simpa using e)]
  | [], _ :: _, _, e => by cases e
  | _ :: _, [], _, e => by cases e
theorem Rep.putF {c f : Str} {ns : List Str} {ds : List DV} {dy : DV} {y : V} (r : Rep C F H Γ σ ρ ((.fr, dy, y) :: (.ob .fr, .obj c ns ds, v) :: L)) (hΓ : Γ.all Md.stor = true) (hf : f ∉ ns) (hs : storL L) :
    ∃ p Ca dx vs, v = .ref p ∧ C.mg c = some (.ref Ca) ∧ H p = some (.ins Ca dx (ns.zip vs)) ∧ ns.length = vs.length ∧ Rep C F (L2.upd H p (.ins Ca dx (L2.putF f y (ns.zip vs)))) Γ σ ρ ((.ob .fr, .obj c (ns ++ [f]) (ds ++ [dy]), v) :: L) := by
  obtain ⟨f1, f2, nd, a, g1, g2, h1, h2, g3, g4, h3, h4, h5⟩ := r.own
  unfold At at h4
  rw [if_pos (show isObj (.obj c ns ds) = true from rfl)] at h4
  obtain ⟨p, vs, o, fc, e1, e2, e3, e4, e5, e6, e7⟩ := h4
  obtain ⟨Ca, dx, u1, u2, u3⟩ := e5
  subst u2
  subst e1
  subst e6
  subst h3
  subst h1
  obtain ⟨hg1, hda⟩ := h2
  subst hg1
  refine ⟨p, Ca, dx, vs, rfl, u1, e4, u3, ?_⟩
  rw [putF_new hf u3]
  generalize hN : (HO.ins Ca dx ((ns ++ [f]).zip (vs ++ [y])) : HO) = N
  have tN : tupO N = false := by rw [← hN]; rfl
  have np := List.nodup_append.mp nd
  rw [List.nil_append] at np
  have np3 := List.nodup_append.mp np.2.1
  have np4 := List.nodup_cons.mp np3.1
  have n1 : ∀ x ∈ f1, x ≠ p := fun x hx e => np.2.2 x hx p (List.mem_append_left _ List.mem_cons_self) e
  have n3 : ∀ x ∈ fc, x ≠ p := fun x hx e => np4.1 (e ▸ hx)
  have n4 : ∀ x ∈ g4, x ≠ p := fun x hx e => np3.2.2 p List.mem_cons_self x hx e.symm
  have o1 := a.owned
  have o4 := h5.owned
  have nm : ∀ x u, L2.upd H p N x = some u → tupO u = true → H x = some u := fun x u e t => by
    by_cases z : x = p
    · subst z; rw [upd_same] at e; cases e; rw [tN] at t; cases t
    · rw [upd_ne z] at e; exact e
  have lq : ∀ x u, x ≠ p → H x = some u → L2.upd H p N x = some u := fun x u z e => by rw [upd_ne z]; exact e
  have fit : Fit C F (L2.upd H p N) := ⟨r.fit.ff, fun x u e => lq x u (fun z => by rw [z, e2] at e; cases e) (r.fit.fh _ _ e), fun x u e => lq x u (fun z => by rw [z, e3] at e; cases e) (r.fit.bh _ _ e), r.fit.f0, fun x u e t => r.fit.tp x u (nm x u e t) t⟩
  have e8 : Alls (At C F (L2.upd H p N) .fr) ds vs fc := e7.imp fun d v f hf x => x
  refine ⟨fit, r.io, f1, (p :: (fc ++ [])) ++ g4, ?_, a.mono (Same.refl _) (fun x hx => (o1 x hx).1) (fun x hx => upd_ne (n1 x hx)) (.inl hΓ), p :: (fc ++ []), g4, rfl, ?_, h5.safe (Safe.of hs) (fun x hx => (o4 x hx).1) n4⟩
  · simpa using nd
  · unfold At
    rw [if_pos (show isObj (.obj c (ns ++ [f]) (ds ++ [dy])) = true from rfl)]
    refine ⟨p, vs ++ [y], N, fc ++ [], rfl, e2, e3, upd_same, ⟨Ca, dx, u1, hN.symm, ?_⟩, rfl, e8.append (Alls.one ⟨rfl, hda⟩)⟩
    rw [List.length_append, List.length_append, u3]
    rfl
def gSetF (i : Nat) (c f : Str) (g : GX) : GS := fun ρ => match g ρ with
  | .ok (y, ρ') => (match lk ρ' i with
    | .ok (.obj c' ns ds) => if c' = c ∧ (f ∉ ns ∧ ns.length < 1000) then .nx (ρ'.set i (some (.obj c' (ns ++ [f]) (ds ++ [y])))) else .stuck
    | _ => .stuck)
  | .ex c d => .ex c d
  | .stuck => .stuck
theorem ss_setF {i : Nat} {c f : Str} {Ca : Addr} {t : TE} {g : GX} (hi : Γ[i]? = some (.ob .fr)) (h : SX C W Γ t g .fr) (hm : C.mg c = some (.ref Ca)) (hc : Cls C.K Ca) (hn : NoAttr C.K Ca f) (hΓ : Γ.all Md.stor = true := by rfl) : SS C W mr Γb Γ (sFld C.K (tVar i) t f) (gSetF i c f g) Γ := by
  intro F H σ ρ L Dn hs r k
  show t σ H fun y H1 => ∃ x, σ[i]? = some (some x) ∧ ∃ a C' dx fs, x = .ref a ∧ H1 a = some (.ins C' dx fs) ∧ Cls C.K C' ∧ NoAttr C.K C' f ∧ fs.length < 1000 ∧ Dn.nx σ (L2.upd H1 a (.ins C' dx (L2.putF f y fs)))
  refine h F H σ ρ L _ hs r ?_
  unfold gSetF at k
  revert k
  cases g ρ with
  | ex c d => exact fun k => k
  | stuck => exact fun k => k
  | ok p =>
    obtain ⟨dy, ρ'⟩ := p
    intro k F1 H1 y s1 r1
    replace k : PS' C W mr Γb Γ F H L Dn (match lk ρ' i with | .ok (.obj c' ns ds) => if c' = c ∧ (f ∉ ns ∧ ns.length < 1000) then .nx (ρ'.set i (some (.obj c' (ns ++ [f]) (ds ++ [dy])))) else .stuck | _ => .stuck) := k
    rcases lk_cases ρ' i with ⟨d, g2, g3⟩ | g3
    · rw [g3] at k
      cases d with
      | obj c' ns ds =>
        replace k : PS' C W mr Γb Γ F H L Dn (if c' = c ∧ (f ∉ ns ∧ ns.length < 1000) then .nx (ρ'.set i (some (.obj c' (ns ++ [f]) (ds ++ [dy])))) else .stuck) := k
        split at k
        · rename_i hz
          obtain ⟨hz1, hz2, hz3⟩ := hz
          subst hz1
          obtain ⟨v, h2, r2⟩ := r1.take hi g2
          obtain ⟨p, Cb, dx, vs, z1, z2, z3, z4, r3⟩ := r2.swap.putF hΓ hz2 hs
          rw [hm] at z2
          cases z2
          refine ⟨v, h2, p, Ca, dx, _, z1, z3, hc, hn, ?_, ?_⟩
          · rw [List.length_zip, z4, Nat.min_self, ← z4]; exact hz3
          · have r4 := r3.back h2 (.inl hi)
            rw [set_set', set_id hi] at r4
            exact k F1 _ σ s1 r4
        · exact k.elim
      | _ => exact k.elim
    · rw [g3] at k
      exact k.elim
/-! ### __init__ -/
def hole (x : Addr) (H : Hp) : Hp := fun a => if a = x then none else H a
theorem hole_same {x : Addr} : Same (hole x H) H := fun a o e => by
  unfold hole at e
  split at e
  · cases e
  · exact e
abbrev CN (K : PySem.W.Frag) (mg : Str → Option Value) (x : Addr) (H F : Hp) : Cxt := ⟨K, mg, hole x H, F, [(0, .ref x, .ob .fr)]⟩
def PN (C : Cxt) (XW : Wx) (F : Hp) (x : Addr) (Q : VK) : Rs DV → Prop
  | .ok d => ∀ F' H', Same F F' → Fit C F' H' → DA C.K C.mg F' d (.ref x) → Q .non H'
  | .ex c d => ∀ F' H', Same F F' → Fit C F' H' → XW c d H'
  | .stuck => False
/-- an __init__'s promise by its mirror -/
def spN (K : PySem.W.Frag) (mg : Str → Option Value) (XW : XK → Wx) (c : Str) (pm : List Md) (f : List DV → Rs DV) : Sp := fun vs H Q E =>
  ∃ x Ca dx ws F ds, vs = .ref x :: ws ∧ mg c = some (.ref Ca) ∧ H x = some (.ins Ca dx []) ∧ F x = none ∧ Fit (CN K mg x H F) F H ∧ ArgsAt (CN K mg x H F) F H pm ds ws ∧ PN (CN K mg x H F) (XW E) F x Q (f ds)
def startN (c : Str) (n : Nat) (ds : List DV) : EnvD := some (.obj c [] []) :: startD n ds
def finN : Out → Rs DV
  | .nx (some d :: _) => if isObj d = true then .ok d else .stuck
  | .ex c d => .ex c d
  | _ => .stuck
/-- an __init__'s mirror by its body's, over n + 1 slots -/
def runN (c : Str) (g : GS) (n : Nat) (ds : List DV) : Rs DV := finN (g (startN c n ds))
theorem fnN {P : Program} {w : World} {CX : CXT} {XW : XK → Wx} {K : PySem.W.Frag} {mg : Str → Option Value} {base : Heap} {k : Nat} {x qual c : Str} {st : Stmt} {f : Addr} {fd : FuncData} {N ps : List Str} {pm Γl : List Md} {g : GS}
    (Fn : FunD K x qual (defArgs st) (defBody st) (defScope st) [] [] f fd) (S : FnScope N ps (defScope st)) (hp : pm.length + 1 = ps.length) (hN : pm.length + Γl.length + 1 = N.length)
    (hb : ∀ (cdv : Value) (A : Around) (outer : List PySem.Env) (s : Shared) (H : Hp) (E : XK), Room k (A.deeper (envOfC qual (defScope st) s.heap.objs.size f cdv)) →
      ∃ t, PSs (cxOf CX P w K mg base N qual (defScope st) f cdv A outer s H E) (defBody st) t ∧ ∀ (Bp F0 : Hp) (a : Addr), ∃ Γ', SS ⟨K, mg, Bp, F0, [(0, .ref a, .ob .fr)]⟩ (XW E) .fr [] (.ob .fr :: (pm ++ Γl)) t g Γ') :
    FnOk P w K mg base CX (k + 1) f fd ps (spN K mg XW c pm (runN c g (pm.length + Γl.length))) := by
  refine Fn.ok S (fun vs H Q E h => ?_) fun cdv A outer s H vs Q E hr h => ?_
  · obtain ⟨x, Ca, dx, ws, F, ds, e1, _, _, _, _, h2, _⟩ := h
    rw [e1, List.length_cons, h2.len.2, hp]
  · obtain ⟨x, Ca, dx, ws, F, ds, e1, hm, hx, hF, h1, h2, h3⟩ := h
    subst e1
    obtain ⟨t, ht, hs⟩ := hb cdv A outer s H E hr
    obtain ⟨l1, l2⟩ := h2.len
    obtain ⟨Γ', hs⟩ := hs (hole x H) F x
    refine ⟨t, ht, hs F H (start N (.ref x :: ws)) (startN c (pm.length + Γl.length) ds) [] _ rfl ?_ ?_⟩
    · have hst : start N (.ref x :: ws) = some (.ref x) :: (ws.map some ++ List.replicate Γl.length none) := by
        unfold L2.start
        rw [List.length_cons, l2, show N.length - (pm.length + 1) = Γl.length by omega]
        rfl
      refine ⟨h1, fun p hp => ?_, [x], [], (List.nodup_cons.mpr ⟨by simp, List.nodup_nil⟩), ?_, rfl⟩
      · rw [List.mem_singleton.mp hp, hst]
        exact ⟨rfl, rfl⟩
      · rw [hst]
        unfold startN startD
        rw [l1, show pm.length + Γl.length - pm.length = Γl.length by omega]
        refine ⟨[x], [], rfl, ⟨.ref x, rfl, ?_⟩, slots_start Γl h2⟩
        unfold At
        rw [if_pos (show isObj (.obj c [] []) = true from rfl)]
        exact ⟨x, [], _, [], rfl, hF, if_pos rfl, hx, ⟨Ca, dx, hm, rfl, rfl⟩, rfl, rfl, rfl⟩
    · unfold runN at h3
      revert h3
      cases g (startN c (pm.length + Γl.length) ds) with
      | nx ρ' =>
        intro h3 F1 H1 σ1 s1 r1
        cases ρ' with
        | nil => exact h3.elim
        | cons o ρ' =>
          cases o with
          | none => exact h3.elim
          | some d =>
            have h3 : PN (CN K mg x H F) (XW E) F x _ (if isObj d = true then .ok d else .stuck) := h3
            split at h3
            · rename_i hz
              have hio := r1.io (0, .ref x, .ob .fr) List.mem_cons_self
              obtain ⟨v, e1, r2⟩ := r1.take (i := 0) hio.2 rfl
              rw [hio.1] at e1
              cases e1
              obtain ⟨F2, s2, r3⟩ := r2.freeze rfl
              exact h3 F2 H1 (s1.trans s2) r3.fit r3.fr
            · exact h3.elim
      | rt d ρ' => exact fun h => h.elim
      | bk ρ' => exact fun h => h.elim
      | ct ρ' => exact fun h => h.elim
      | ex c d => exact fun h3 F1 H1 s1 f1 => h3 F1 H1 s1 f1
      | stuck => exact fun h => h
/-! ### C(..) -/
theorem ArgsAt.to {C C' : Cxt} {F H H' : Hp} (hK : C'.K = C.K) (hm : C'.mg = C.mg) (hB : Same C.Bp C'.Bp) : ∀ {ms pm : List Md} {ds : List DV} {vs : List V}, fitsL ms pm = true → ArgsAt C F H pm ds vs → ArgsAt C' F H' pm ds vs
  | [], [], [], [], _, _ => trivial
  | m :: ms, p :: pm, d :: ds, v :: vs, q, ⟨h1, h2⟩ => by
    obtain ⟨q1, q2⟩ := (Bool.and_eq_true _ _).mp (show (Md.fits m p && fitsL ms pm) = true from q)
    refine ⟨?_, ArgsAt.to hK hm hB q2 h2⟩
    cases p with
    | bo => exact ⟨rfl, by rw [hK, hm]; exact DA.mono hB _ _ h1.2⟩
    | fr => exact ⟨rfl, by rw [hK, hm]; exact h1.2⟩
    | sc => obtain ⟨_, a, ns, e1, e2, e3⟩ := h1; exact ⟨rfl, a, ns, e1, e2, by rw [hK]; exact e3⟩
    | pk m => cases m <;> cases q1
    | own m => cases m <;> cases q1
    | tu m => cases m <;> cases q1
    | ob m => cases m <;> cases q1
    | po m => cases m <;> cases q1
  | [], _ :: _, _, _, q, _ => by cases q
  | _ :: _, [], _, _, q, _ => by cases q
  | [], [], _ :: _, _, _, h => by cases ‹List V› <;> exact h.elim
  | [], [], [], _ :: _, _, h => h.elim
  | _ :: _, _ :: _, [], _, _, h => by cases ‹List V› <;> exact h.elim
  | _ :: _, _ :: _, _ :: _, [], _, h => h.elim
theorem se_make {XW : XK → Wx} {E : XK} {c : Str} {Ca : Addr} {pm ms : List Md} {f : List DV → Rs DV} {t : TA} {g : GA} (h : SA C W Γ t g ms) (hm : C.mg c = some (.ref Ca)) (hx : ∀ c d H', W c d H' → XW E c d H') (hf : fitsL ms pm = true := by rfl) :
    SE C W Γ (tMake Ca (spN C.K C.mg XW c pm f) [] E t) (gCB f g) .fr := by
  intro F H σ ρ L Q hL r k
  show t σ H fun vs H1 => ∀ x dx, H1 x = none → H1 dx = none → dx ≠ x → spN C.K C.mg XW c pm f (.ref x :: (vs ++ [])) (upd (upd H1 dx (.own x)) x (.ins Ca dx [])) (fun v H2 => v = .non ∧ Q (.ref x) H2) E
  refine sa_then h hL r k fun ds F1 H1 vs s1 s2 e1 e2 r1 k1 x dx nx nd ne => ?_
  rw [List.append_nil]
  obtain ⟨a1, r2⟩ := r1.args hf e1 e2
  generalize hN : upd (upd H1 dx (.own x)) x (.ins Ca dx []) = N
  have N1 : Same H1 N := fun a o e => by
    rw [← hN, upd_ne (ne_of_none e nx), upd_ne (ne_of_none e nd)]
    exact e
  have N2 : Same H1 (hole x N) := fun a o e => by
    unfold hole
    rw [if_neg (ne_of_none e nx)]
    exact N1 _ _ e
  have N3 : ∀ a o, N a = some o → tupO o = true → H1 a = some o := fun a o e q => by
    rw [← hN] at e
    by_cases z : a = x
    · subst z; rw [upd_same] at e; cases e; cases q
    · rw [upd_ne z] at e
      by_cases z2 : a = dx
      · subst z2; rw [upd_same] at e; cases e; cases q
      · rw [upd_ne z2] at e; exact e
  have N4 : N x = some (.ins Ca dx []) := by rw [← hN, upd_same]
  have fx : F1 x = none := Same.free r2.fit.fh nx
  have ft : Fit (CN C.K C.mg x N F1) F1 N := ⟨Same.refl _, r2.fit.fh.trans N1, hole_same, fun a h => .inl h, fun a o e q => r2.fit.tp a o (N3 a o e q) q⟩
  refine ⟨x, Ca, dx, vs, F1, ds, rfl, hm, N4, fx, ft, ArgsAt.to (C := C0 C.K C.mg H1 F1) (C' := CN C.K C.mg x N F1) rfl rfl N2 hf a1, ?_⟩
  have cf : ∀ {F2 H2 : Hp}, Fit (CN C.K C.mg x N F1) F2 H2 → Fit (C0 C.K C.mg H1 F1) F2 H2 := fun {F2 H2} f2 => ⟨f2.ff, f2.fh, N2.trans f2.bh, fun a ha => by
    rcases f2.f0 a ha with z | z | ⟨o, z1, z2⟩
    · exact .inl z
    · exact .inr (.inl (Same.free N2 z))
    · exact .inr (.inr ⟨o, N3 a o (hole_same _ _ z1) z2, z2⟩), f2.tp⟩
  revert k1
  cases f ds with
  | ok d => exact fun k1 F2 H2 s3 f2 h2 => ⟨rfl, k1 F2 H2 (.ref x) s3 (cf f2).bh (r2.call (m := .fr) rfl (cf f2) ⟨rfl, h2⟩ List.nodup_nil)⟩
  | ex c d => exact fun k1 F2 H2 s3 f2 => hx c d H2 (k1 F2 H2 s3 (cf f2).bh (r2.fit.lift (cf f2)))
  | stuck => exact fun k1 => k1
/-! ### o.m(..) -/
def gMeth (c m : Str) (f : List DV → Rs DV) (g : GE) (ga : GA) : GE := fun ρ => (g ρ).bind fun x => match x with
  | .obj c' ns ds => if c' = c ∧ m ∉ ns then (ga ρ).bind fun es => f (.obj c' ns ds :: es) else .stuck
  | _ => .stuck
theorem lookup_none {f : Str} : ∀ {ns : List Str} {vs : List V}, f ∉ ns → (ns.zip vs).lookup f = none
  | [], _, _ => rfl
  | _ :: _, [], _ => rfl
  | n :: ns, v :: vs, h => by
    have h1 : (f == n) = false := by
      cases z : f == n with
      | false => rfl
      | true => exact absurd (beq_iff_eq.mp z) fun e => h (e ▸ List.mem_cons_self)
    rw [List.zip_cons_cons, List.lookup_cons, h1]
    exact lookup_none fun z => h (List.mem_cons_of_mem _ z)
theorem se_meth {XW : XK → Wx} {E : XK} {c mn : Str} {Ca : Addr} {p : Md} {pm ms : List Md} {f : List DV → Rs DV} {te : TE} {g : GE} {t : TA} {ga : GA} (he : SE C W Γ te g m) (h : SA C W Γ t ga ms) (hm : C.mg c = some (.ref Ca)) (hx : ∀ c d H', W c d H' → XW E c d H')
    (qf : m.fld = true := by rfl) (hp : Md.fits m p = true := by rfl) (hf : fitsL ms pm = true := by rfl) (q : mr.fz = true := by rfl) : SE C W Γ (tMeth Ca mn (spD C.K C.mg XW (p :: pm) mr f) [] E te t) (gMeth c mn f g ga) mr := by
  intro F H σ ρ L Q hL r k
  show te σ H fun x H1 => ∃ a dx fs, x = .ref a ∧ H1 a = some (.ins Ca dx fs) ∧ fs.lookup mn = none ∧ t σ H1 fun vs H2 => spD C.K C.mg XW (p :: pm) mr f (x :: (vs ++ [])) H2 Q E
  refine se_then he hL r k fun d F1 H1 x s1 s2 r1 k1 => ?_
  cases d with
  | obj c' ns dd =>
    replace k1 : PE' C W Γ F1 H1 σ ρ L mr Q (if c' = c ∧ mn ∉ ns then (ga ρ).bind fun es => f (.obj c' ns dd :: es) else .stuck) := k1
    split at k1
    · rename_i hz
      obtain ⟨hz1, hz2⟩ := hz
      subst hz1
      obtain ⟨a, Cb, dx, vs, u1, u2, u3, u4, u5⟩ := r1.flds qf
      rw [hm] at u2
      cases u2
      refine ⟨a, dx, _, u1, u3, lookup_none hz2, ?_⟩
      have hok : (m.stor || m.free) = true := by
        match m, qf with
        | .fr, _ => rfl
        | .bo, _ => rfl
        | .po .fr, _ => rfl
      refine sa_then h (okL_cons hok hL) r1 k1 fun ds F2 H2 ws s3 s4 e1 e2 r2 k2 => ?_
      rw [List.append_nil]
      obtain ⟨a1, r3⟩ := r2.args hf e1 e2
      have a0 : ArgsAt (C0 C.K C.mg H2 F2) F2 H2 [p] [.obj c' ns dd] [x] := (Rep.args (ms := [m]) (pm := [p]) (ds := [.obj c' ns dd]) (vs := [x]) r3 (by show (Md.fits m p && true) = true; rw [hp]; rfl) rfl rfl).1
      refine ⟨F2, .obj c' ns dd :: ds, ⟨Same.refl _, r3.fit.fh, Same.refl _, fun a h => .inl h, r3.fit.tp⟩, ⟨a0.1, a1⟩, ?_⟩
      revert k2
      cases f (.obj c' ns dd :: ds) with
      | ok d => exact fun k2 F3 H3 v fp s5 f3 h3 nd => k2 F3 H3 v s5 f3.bh (r3.tail.call q f3 h3 nd)
      | ex c d => exact fun k2 F3 H3 s5 f3 => hx c d H3 (k2 F3 H3 s5 f3.bh (r3.tail.fit.lift f3))
      | stuck => exact fun k2 => k2
    · exact k1.elim
  | _ => exact k1.elim
end
end DL
end

/-! text DO1 -/
section
set_option maxRecDepth 100000
set_option maxHeartbeats 4000000
/-! zip of two lists; is False -/
namespace DL
open PySem PySem.Spec PyProof.Rows L2
section
variable {C : Cxt} {W : Wx} {F F' H H' : Hp} {Γ : List Md} {σ : L2.St} {ρ : EnvD} {L : List Ent} {m ma mb mr : Md} {d : DV} {v : V} {st : Bool}
def zipD (xs ys : List DV) : List DV := (xs.zip ys).map fun p => .tup [p.1, p.2]
def dZip : List DV → Rs (List DV)
  | [.lst xs, .lst ys] => .ok (zipD xs ys)
  | _ => .stuck
def gZip (g : GA) : GI := fun ρ => (g ρ).bind dZip
theorem zipD_len {xs ys : List DV} : (zipD xs ys).length = min xs.length ys.length := by
  unfold zipD
  rw [List.length_map, List.length_zip]
theorem zipD_get {xs ys : List DV} {i : Nat} {d : DV} (h : (zipD xs ys)[i]? = some d) : ∃ x y, xs[i]? = some x ∧ ys[i]? = some y ∧ d = .tup [x, y] := by
  unfold zipD at h
  rw [List.getElem?_map] at h
  cases e : (xs.zip ys)[i]? with
  | none => rw [e] at h; cases h
  | some p =>
    rw [e] at h
    cases h
    obtain ⟨h1, h2⟩ := List.getElem?_zip_eq_some.mp e
    exact ⟨p.1, p.2, h1, h2, rfl⟩
theorem si_zip {t : TA} {g : GA} (h : SA C W Γ t g [ma, mb]) (qa : ma.ixok = true := by rfl) (qb : mb.ixok = true := by rfl) (ka : ma.kid = .fr := by rfl) (kb : mb.kid = .fr := by rfl) (sa : ma.stor = true := by rfl) (sb : mb.stor = true := by rfl) : SI C W Γ (iZip C.K t) (gZip g) .fr st := by
  intro F H σ ρ L R hL r k
  show t σ H fun vs H1 => ∃ a b xs ys, vs = [.ref a, .ref b] ∧ SqL C.K H1 a xs ∧ SqL C.K H1 b ys ∧ R (Itz C.K a b) H1
  refine h F H σ ρ L _ hL r ?_
  unfold gZip at k
  revert k
  cases g ρ with
  | ex c d => exact fun k => k
  | stuck => exact fun k => k
  | ok ds =>
    intro k F1 H1 vs s1 s2 e1 e2 r1
    match vs, ds, e1, e2, r1, k with
    | [x, y], [dx, dy], _, _, r1, k =>
      have r1 : Rep C F1 H1 Γ σ ρ ((mb, dy, y) :: (ma, dx, x) :: L) := r1
      cases dx with
      | lst xs =>
        cases dy with
        | lst ys =>
          have k : PI' C W Γ F H σ ρ L .fr st R (.ok (zipD xs ys)) := k
          obtain ⟨a, vs, h1, h2, h3⟩ := r1.tail.items qa
          obtain ⟨b, ws, g1, g2, g3⟩ := r1.items qb
          refine ⟨a, b, vs, ws, by rw [h1, g1], h2.1, g2.1, ?_⟩
          refine k F1 H1 (Itz C.K a b) [(mb, .lst ys, y), (ma, .lst xs, x)] s1 s2 (fun _ => storL_cons sb (storL_cons sa rfl)) (fun e he => ?_) r1 ?_
          · rcases List.mem_cons.mp he with z | z
            · subst z; exact ⟨ixok_free qb, r1.free (ixok_free qb)⟩
            · obtain rfl := List.mem_singleton.mp z
              exact ⟨ixok_free qa, r1.tail.free (ixok_free qa)⟩
          · intro i F2 H2 Γ2 σ2 ρ2 L2 r2
            have r2 : Rep C F2 H2 Γ2 σ2 ρ2 ((mb, .lst ys, y) :: (ma, .lst xs, x) :: L2) := r2
            obtain ⟨a2, vs2, i1, i2, i3⟩ := r2.tail.items qa
            obtain ⟨b2, ws2, j1, j2, j3⟩ := r2.items qb
            have ea : a2 = a := by rw [h1] at i1; cases i1; rfl
            have eb : b2 = b := by rw [g1] at j1; cases j1; rfl
            subst ea
            subst eb
            refine ⟨fun hl => ⟨vs2, ws2, i2.1, j2.1, ?_⟩, fun d hd => ?_⟩
            · rw [zipD_len] at hl
              rw [← i3.length, ← j3.length]
              omega
            · obtain ⟨dx, dy, e1, e2, rfl⟩ := zipD_get hd
              obtain ⟨w1, u1, u2⟩ := i3.nil_get e1
              obtain ⟨w2, u3, u4⟩ := j3.nil_get e2
              refine ⟨⟨vs2, ws2, w1, w2, i2.1, j2.1, u1, u3⟩, fun z H' hy => ?_⟩
              obtain ⟨T, p, q, rfl, hT, rfl, y1, y2⟩ := hy
              have ep : p = w1 := Option.some.inj ((y1 vs2 i2.1).symm.trans u1)
              have eq : q = w2 := Option.some.inj ((y2 ws2 j2.1).symm.trans u3)
              subst ep
              subst eq
              rw [ka] at u2
              rw [kb] at u4
              have r3 : Rep C F2 H2 Γ2 σ2 ρ2 (entsA [.fr, .fr] [dx, dy] [p, q] ((mb, .lst ys, y) :: (ma, .lst xs, x) :: L2)) := (r2.cons0 u2).cons0 u4
              obtain ⟨sf, r4⟩ := r3.tuple (m := .fr) (by decide) rfl rfl hT
              obtain ⟨F3, s3, r5⟩ := r4.freeze rfl
              exact ⟨F3, sf.trans s3, same_upd hT, r5⟩
        | _ => exact k.elim
      | _ => cases dy <;> exact k.elim
/-! ### x is False -/
def dIsB : OpD := fun x y => match x, y with
  | .bl a, .bl b => .ok (.bl (decide (a = b)))
  | _, _ => .stuck
def dNotB : OpD := fun x y => match x, y with
  | .bl a, .bl b => .ok (.bl (!decide (a = b)))
  | _, _ => .stuck
abbrev rIsB : R2 := fun x y H Q => ∃ a b, x = .bl a ∧ y = .bl b ∧ Q (.bl (decide (a = b))) H
abbrev rNotB : R2 := fun x y H Q => ∃ a b, x = .bl a ∧ y = .bl b ∧ Q (.bl (!decide (a = b))) H
theorem op_isB {X : Cx} : OpR X (compareOp .Is) rIsB := by
  intro pins s σ H x y v u Q I rx ry h
  obtain ⟨a, b, rfl, rfl, q⟩ := h
  cases rx
  cases ry
  refine PyProof.Rows.is_bool (fin_bl I q ?_)
  cases a <;> cases b <;> rfl
theorem op_notB {X : Cx} : OpR X (compareOp .IsNot) rNotB := by
  intro pins s σ H x y v u Q I rx ry h
  obtain ⟨a, b, rfl, rfl, q⟩ := h
  cases rx
  cases ry
  refine PyProof.Rows.isnot_bool (fin_bl I q ?_)
  cases a <;> cases b <;> rfl
theorem os_isB (ra : ma.rd = true := by rfl) (rb : mb.rd = true := by rfl) : OpS C W rIsB dIsB ma mb .fr := by
  intro Γ F H σ ρ L x y dx dy Q r k
  obtain ⟨h1, h2⟩ := r.da2 ra rb
  cases dx with
  | bl a =>
    cases dy with
    | bl b => exact ⟨a, b, h1, h2, k.flat r.tail.tail rfl rfl⟩
    | _ => exact k.elim
  | _ => cases dy <;> exact k.elim
theorem os_notB (ra : ma.rd = true := by rfl) (rb : mb.rd = true := by rfl) : OpS C W rNotB dNotB ma mb .fr := by
  intro Γ F H σ ρ L x y dx dy Q r k
  obtain ⟨h1, h2⟩ := r.da2 ra rb
  cases dx with
  | bl a =>
    cases dy with
    | bl b => exact ⟨a, b, h1, h2, k.flat r.tail.tail rfl rfl⟩
    | _ => exact k.elim
  | _ => cases dy <;> exact k.elim
theorem nioL1 {is : List Nat} {v : V} {m : Md} (h : ∀ i ∈ is, (0 : Nat) ≠ i) : ∀ p ∈ [((0 : Nat), v, m)], ∀ i ∈ is, p.1 ≠ i := fun p hp i hi => by
  rw [List.mem_singleton.mp hp]
  exact h i hi
theorem nio21 {k i j : Nat} {v : V} {m : Md} (h1 : k ≠ i) (h2 : k ≠ j) : ∀ p ∈ [(k, v, m)], p.1 ≠ i ∧ p.1 ≠ j := fun p hp => by
  rw [List.mem_singleton.mp hp]
  exact ⟨h1, h2⟩
/-- an __init__ that lets nothing out -/
theorem fnN0 {P : Program} {w : World} {K : PySem.W.Frag} {mg : Str → Option Value} {base : Heap} {k : Nat} {x qual c : Str} {st : Stmt} {f : Addr} {fd : FuncData} {N ps : List Str} {pm Γl : List Md} {g : GS}
    (Fn : FunD K x qual (defArgs st) (defBody st) (defScope st) [] [] f fd) (S : FnScope N ps (defScope st)) (hp : pm.length + 1 = ps.length) (hN : pm.length + Γl.length + 1 = N.length)
    (hb : ∀ (cdv : Value) (A : Around) (outer : List PySem.Env) (s : Shared) (H : Hp) (E : XK), Room k (A.deeper (envOfC qual (defScope st) s.heap.objs.size f cdv)) →
      ∃ t, PSs (cxOf CX0 P w K mg base N qual (defScope st) f cdv A outer s H E).nox (defBody st) t ∧ ∀ (Bp F0 : Hp) (a : Addr), ∃ Γ', SS ⟨K, mg, Bp, F0, [(0, .ref a, .ob .fr)]⟩ W0 .fr [] (.ob .fr :: (pm ++ Γl)) t g Γ') :
    FnOk P w K mg base CX0 (k + 1) f fd ps (spN K mg X0 c pm (runN c g (pm.length + Γl.length))) := fnN Fn S hp hN fun cdv A outer s H E hr => by
  obtain ⟨t, ht, hs⟩ := hb cdv A outer s H E hr
  exact ⟨t, ht.nox, hs⟩
end
end DL
end

/-! text DG0 -/
section
set_option maxRecDepth 100000
set_option maxHeartbeats 4000000
/-! the law's own def, called by the caller itself: nothing is being shown there, so repr tells the text -/
namespace DL
open PySem PySem.Spec PyProof.Rows L2
/-- a def's promise to the caller alone -/
def FnTop (P : Program) (w : World) (K : PySem.W.Frag) (mg : Str → Option Value) (base : Heap) (CX : CXT) (f : Addr) (fd : FuncData) (ps : List Str) (sp : Sp) : Prop :=
  ∀ (s : Shared) (H : Hp) (args : Args) (us : List Value) (vs : List V) (Q : VK) (E : XK), Env0 P w K mg base callerA [] s H → BindsTo s fd args (ps.zip us) → Vals vs us → vs.length = ps.length → sp vs H Q E → codeAny (model P w) callerA (.call (.ref f) args) (CR CX [] P w H s Q E) s
theorem fn_top {CX : CXT} {P : Program} {w : World} {K : PySem.W.Frag} {mg : Str → Option Value} {base : Heap} {k : Nat} {x qual : Str} {params : Arguments} {body : List Stmt} {scope : Scope} {f : Addr} {fd : FuncData} {N ps : List Str} {sp : Sp}
    (Fn : FunD K x qual params body scope [] [] f fd) (S : FnScope N ps scope) (hr : Room (k + 1) callerA)
    (bd : ∀ (cdv : Value) (s : Shared) (H : Hp) (vs : List V) (Q : VK) (E : XK), Room k (callerA.deeper (envOfC qual scope s.heap.objs.size f cdv)) → sp vs H Q E →
      ∃ t, PSs (cxOf CX P w K mg base N qual scope f cdv callerA [] s H E) body t ∧ t { nx := fun _ H' => Q .non H', rt := Q } (start N vs) H) : FnTop P w K mg base CX f fd ps sp := by
  obtain ⟨oc, od, dV, kV, doc, pm, an, cdv, ct, osl, rfl, lk, hcd, _, _⟩ := Fn.ex
  intro s H args us vs Q E e0 bnd rv ln hsp
  have inn : K.In s.heap := e0.mod.kin.keeps fun b o q => (e0.bs b o q).1
  have nolim : s.heap.NoLimit := e0.mod.nolimit.keeps fun b o q => (e0.bs b o q).1
  have kd : ∀ y ∈ ps.zip us, scope.names.lookup y.1 = some .local ∨ (scope.names.lookup y.1 = some .cell ∧ ((cellsFrom (s.heap.objs.size + 1) scope.names []).lookup y.1).isSome = true) := fun y my => by
    obtain ⟨n, v⟩ := y
    exact (S.par n (List.of_mem_zip my).1).elim .inl fun z => .inr ⟨z, PySem.W.cellsFrom_some _ _ _ (.inl z)⟩
  refine codeAny_call_function hr.depth (inn _ _ lk) rfl S.co S.gen rfl (PySem.W.codeRec_of inn hcd) (bnd _ _ _ _ (wpAny_newFunctionEnv_cells S.kind kd fun env he s1 xc => ?_))
  cases he
  refine ⟨nolim.keeps xc.toInCall.keep, codeAny_func ?_⟩
  obtain ⟨t, ht, hq⟩ := bd cdv s H vs Q E (hr.deeper _) hsp
  have I0 : Inv (cxOf CX P w K mg base N qual scope f cdv callerA [] s H E) [] (start N vs) H s1 := inv_start S hr.hd e0 ln rv xc
  refine wpAny_mono (ht.run [] s1 (start N vs) H _ I0 hq) (fun fl s2 z => ?_) fun _ _ z => z
  cases fl with
  | ret u => obtain ⟨v, σ', H', J, r, q⟩ := z; exact ⟨v, H', J.os, J.bare, J.base, J.hok, r, q⟩
  | next => obtain ⟨σ', H', J, q⟩ := z; exact ⟨.non, H', J.os, J.bare, J.base, J.hok, (rfl : RelV V.non Value.none), q⟩
  | brk => obtain ⟨_, _, _, q⟩ := z; exact q.elim
  | cont => obtain ⟨_, _, _, q⟩ := z; exact q.elim
/-- the call of the law, from a heap of which only the script may be tracked -/
theorem top_from {P : Program} {w : World} {K : PySem.W.Frag} {mg mb : Str → Option Value} {CX : CXT} {fa a : Addr} {fd : FuncData} {x : Str} {sp : Sp} {s : Shared} {vs : List Value} {H : Hp}
    (kin : K.In s.heap) (nsg : s.heap.Ns mainGlobals mg) (nsb : s.heap.Ns builtinsNs mb) (boot : ∀ x : Str, x ≠ "__name__" → mb x = bootBuiltins x) (nl : s.heap.NoLimit) (gs : s.gens = #[])
    (sc : s.heap.get? a = some { cls := .type "list", data := .seq vs.toArray })
    (Fn : ∀ base : Heap, K.In base → base.Ns mainGlobals mg → FnTop P w K mg base CX fa fd [x] sp) (bnd : ∀ (s : Shared) (u : Value), BindsTo s fd ⟨[u], []⟩ [(x, u)])
    (pr : sp [.ref a] H (fun v _ => v = .bl true) fun _ _ _ => False) (no : ∀ H e s', CX [] H s (fun _ _ _ => False) e s' → False)
    (only : Only H) (hok : HOk P w H s.heap) (one : ∀ b, H b ≠ none → b = a) (apart : H a ≠ none → K.lookup a = none) :
    codeAny (model P w) callerA (.call (.ref fa) ⟨[.ref a], []⟩) (fun r s' => r = .ok (.ret (.bool true)) ∧ OldK s.heap s'.heap ∧ s'.os = s.os ∧ AllBare s'.gens) s := by
  have hid : ∀ {b : Addr} {o : Obj}, s.heap.get? b = some o → H b = none → (hidT s.heap H).get? b = some o := fun g n => hidT_get g n
  have dic : ∀ {b : Addr} {o : Obj} {es : Array DictEntry} {ep : Nat}, s.heap.get? b = some o → o.data = .dict es ep → H b = none := fun {b o es ep} g dt => by
    refine Classical.byContradiction fun z => ?_
    rw [one b z] at g
    cases sc.symm.trans g
    exact absurd dt fun z => by cases z
  have spc : ∀ {b : Addr} {m : Str → Option Value}, s.heap.Ns b m → (hidT s.heap H).Ns b m := fun {b m} ⟨o, es, ep, g, dt, r⟩ => ⟨o, es, ep, hid g (dic g dt), dt, r⟩
  have kin2 : K.In (hidT s.heap H) := fun b o g => hid (kin b o g) (Classical.byContradiction fun z => by
    have eb := one b z
    rw [eb] at z g
    rw [apart z] at g
    cases g)
  have md : Mod K mg (hidT s.heap H) := by
    obtain ⟨mc, l1, l2⟩ := nl
    exact ⟨kin2, spc nsg, ⟨mb, spc nsb, boot⟩, ⟨mc, spc l1, l2⟩⟩
  have env : Env0 P w K mg (hidT s.heap H) callerA [] s H := ⟨rfl, md, fun b o g => of_hidT g, Nat.le_of_eq (hidT_size _ _), trivial, fun b z => absurd (show b ∈ ([] : List Addr) from z) (by simp), hok, .of_eq gs⟩
  refine codeAny_mono (Fn _ kin2 (spc nsg) s H ⟨[.ref a], []⟩ [.ref a] [.ref a] _ _ env (bnd s (.ref a)) (.cons rfl .nil) rfl pr) fun r s2 z => ?_
  match r, z with
  | .error e, z => exact (no H e s2 z).elim
  | .ok (.ret u), ⟨v, H2, os, bare, un, hok2, rv, (q : v = .bl true)⟩ =>
    subst q
    have eu : u = Value.bool true := rv
    subst eu
    refine ⟨rfl, OldK.of_keep fun b o g => ?_, os, bare⟩
    cases hb : H b with
    | none => exact un.keep b o g hb (fun z => absurd (show b ∈ ([] : List Addr) from z) (by simp)) (by simp)
    | some u =>
      rcases only b with z | ⟨ob, xs, z⟩
      · rw [hb] at z; cases z
      · have g1 := (hok b _ z).1
        have g2 := (hok2 b _ (un.frzs b ob _ z)).1
        cases g.symm.trans g1
        exact g2
/-- the script's heap -/
def scH (a : Addr) (vs : List Value) (ns : List Int) : Hp := fun b => if b = a then some (.frz { cls := .type "list", data := .seq vs.toArray } (.lst (ns.map V.int))) else none
theorem top_call {P : Program} {w : World} {K : PySem.W.Frag} {mg mb : Str → Option Value} {CX : CXT} {fa a : Addr} {fd : FuncData} {x : Str} {sp : Sp} {s : Shared} {vs : List Value} {ns : List Int}
    (kin : K.In s.heap) (nsg : s.heap.Ns mainGlobals mg) (nsb : s.heap.Ns builtinsNs mb) (boot : ∀ x : Str, x ≠ "__name__" → mb x = bootBuiltins x) (nl : s.heap.NoLimit) (gs : s.gens = #[])
    (sc : s.heap.get? a = some { cls := .type "list", data := .seq vs.toArray }) (itz : IntsAre vs ns) (ln : ns.length ≤ sizeLine)
    (Fn : ∀ base : Heap, K.In base → base.Ns mainGlobals mg → FnTop P w K mg base CX fa fd [x] sp) (bnd : ∀ (s : Shared) (u : Value), BindsTo s fd ⟨[u], []⟩ [(x, u)])
    (pr : ∀ H : Hp, Only H → SqL K H a (ns.map V.int) → sp [.ref a] H (fun v _ => v = .bl true) fun _ _ _ => False) (no : ∀ H e s', CX [] H s (fun _ _ _ => False) e s' → False) :
    codeAny (model P w) callerA (.call (.ref fa) ⟨[.ref a], []⟩) (fun r s' => r = .ok (.ret (.bool true)) ∧ OldK s.heap s'.heap ∧ s'.os = s.os ∧ AllBare s'.gens) s := by
  have rv := vals_ints itz
  have le := itz.length
  cases lk : K.lookup a with
  | some o =>
    have g := kin a o lk
    cases sc.symm.trans g
    have on0 : Only (fun _ => none) := fun _ => .inl rfl
    have sq0 : SqL K (fun _ => none) a (ns.map V.int) := .inr ⟨_, vs.toArray, _, lk, rfl, rfl, rfl, by rw [List.size_toArray, le]; exact ln, by simpa using rv⟩
    exact top_from kin nsg nsb boot nl gs sc Fn bnd (pr _ on0 sq0) no on0 (fun b u z => by cases (show (none : Option HO) = some u from z)) (fun b z => absurd rfl z) fun z => absurd rfl z
  | none =>
    have at1 : scH a vs ns a = some (.frz { cls := .type "list", data := .seq vs.toArray } (.lst (ns.map V.int))) := if_pos rfl
    have at0 : ∀ b, b ≠ a → scH a vs ns b = none := fun b z => if_neg z
    have on1 : Only (scH a vs ns) := fun b => by
      by_cases z : b = a
      · subst z; exact .inr ⟨_, _, at1⟩
      · exact .inl (at0 b z)
    refine top_from kin nsg nsb boot nl gs sc Fn bnd (pr _ on1 (.inl (.inr ⟨_, at1⟩))) no on1 (fun b u z => ?_) (fun b z => Classical.byContradiction fun q => z (at0 b q)) fun _ => lk
    by_cases q : b = a
    · subst q
      cases at1.symm.trans z
      exact ⟨sc, by rw [List.length_map]; exact ln, vs, _, rv, sc⟩
    · rw [at0 b q] at z
      cases z
theorem walk_top {l : PySem.W.OpenLaw} {n : Nat} {q : Program} {loose : List Str} {XP : (Str → Option Value) → Heap → Prop} {YP : World → Heap → Prop} {d : DefRec} {CX : CXT} {x : Str}
    (most : l.most = some n) (fits : n ≤ sizeLine) (nodf : d.params.defaults = [])
    (F : ∀ (w : World) (mg : Str → Option Value) (fa : Addr) (h : Heap), YP w h → h.Ns mainGlobals mg → mg d.name = some (.ref fa) →
      ∃ (K : PySem.W.Frag) (fd : FuncData) (sp : Sp), K.In h ∧ (∀ (s : Shared) (u : Value), BindsTo s fd ⟨[u], []⟩ [(x, u)]) ∧
        (∀ (H : Hp) (a : Addr) (ns : List Int), ns.length ≤ n → Only H → SqL K H a (ns.map V.int) → sp [.ref a] H (fun v _ => v = .bl true) fun _ _ _ => False) ∧ ∀ base : Heap, K.In base → base.Ns mainGlobals mg → FnTop l.prog w K mg base CX fa fd [x] sp)
    (no : ∀ (H : Hp) (s : Shared) (e : Value) (s' : Shared), CX [] H s (fun _ _ _ => False) e s' → False) :
    PySem.W.WalkO q loose XP YP l.row.toRowW d [] (fun f vs => PySem.call f vs) := by
  refine Att.attach_call most nodf fun w s₀ s₁ mg mb fa o pm cd doc a vs ns G Y ho hd hcd gm sc itz len gs => ?_
  obtain ⟨K, fd, sp, kin, bnd, prm, Fn⟩ := F w mg fa _ Y G.T.g gm
  exact top_call kin G.T.g G.T.b G.T.builtins G.T.nolimit gs sc itz (Nat.le_trans len fits) Fn bnd (fun H a1 a2 => prm H a ns len a1 a2) fun H e s' => no H s₁ e s'
/-- THE RULE of the law's def, walked with the caller's eyes -/
theorem fnTop {P : Program} {w : World} {K : PySem.W.Frag} {mg : Str → Option Value} {base : Heap} {k : Nat} {x qual : Str} {st : Stmt} {f : Addr} {fd : FuncData} {N ps : List Str} {pm Γl : List Md} {mr : Md} {g : GS}
    (Fn : FunD K x qual (defArgs st) (defBody st) (defScope st) [] [] f fd) (S : FnScope N ps (defScope st)) (hr : Room (k + 1) callerA) (hN : pm.length + Γl.length = N.length) (qr : mr.rd = true)
    (hb : ∀ (cdv : Value) (A : Around) (outer : List PySem.Env) (s : Shared) (H : Hp) (E : XK), A.guards = some [] → Room k (A.deeper (envOfC qual (defScope st) s.heap.objs.size f cdv)) →
      ∃ t, PSs (cxOf CX0 P w K mg base N qual (defScope st) f cdv A outer s H E).nox (defBody st) t ∧ ∀ (Bp F0 : Hp), ∃ Γ', SS ⟨K, mg, Bp, F0, []⟩ W0 mr [] (pm ++ Γl) t g Γ') :
    FnTop P w K mg base CX0 f fd ps (spD K mg X0 pm mr (runB g N.length)) := by
  refine fn_top Fn S hr fun cdv s H vs Q E hr2 h => ?_
  obtain ⟨F, ds, h1, h2, h3⟩ := h
  obtain ⟨t, ht, hs⟩ := hb cdv callerA [] s H E rfl hr2
  obtain ⟨l1, l2⟩ := h2.len
  obtain ⟨Γ', hs⟩ := hs H F
  refine ⟨t, ht.nox, hs F H (start N vs) (startD N.length ds) [] _ rfl ?_ ?_⟩
  · refine ⟨h1, fun p hp => (by cases hp), [], [], List.nodup_nil, ?_, rfl⟩
    unfold L2.start startD
    rw [l1, l2, show N.length - pm.length = Γl.length by omega]
    exact slots_start Γl h2
  · unfold runB at h3
    revert h3
    cases g (startD N.length ds) with
    | nx ρ' => exact fun h3 F1 H1 σ1 s1 r1 => h3 F1 H1 .non [] s1 r1.fit (At.flat qr rfl) List.nodup_nil
    | rt d ρ' =>
      intro h3 F1 H1 Γr σ1 L1 v s1 r1
      obtain ⟨f1, f2, nd, a, g1, g2, e1, e2, e3⟩ := r1.own
      subst e1
      exact h3 F1 H1 v g1 s1 r1.fit e2 (nd.sublist (List.Sublist.trans (List.sublist_append_left _ _) (List.sublist_append_right _ _)))
    | bk ρ' => exact fun h => h.elim
    | ct ρ' => exact fun h => h.elim
    | ex c d => exact fun h3 F1 H1 s1 f1 => h3 F1 H1 s1 f1
    | stuck => exact fun h => h
/-! ### repr -/
def rRepr (K : PySem.W.Frag) : RA := fun xs H Q => ∃ (a : Addr) (d : PyData), xs = [.ref a] ∧ Dp K H (.ref a) d ∧ d.showable = true ∧ d.hasDict = false ∧ d.depth ≤ 20 ∧ d.shown.length ≤ sizeLine ∧ Q (.str d.shown) H
theorem cr_repr {X : Cx} (hg : X.A.guards = some []) (hu : X.A.units + 65 < cLine) : CallR X (.builtin "repr") (rRepr X.K) := by
  intro pins s σ H xs us Q I r h
  obtain ⟨a, d, rfl, hd, h1, h2, h3, h4, q⟩ := h
  obtain ⟨u, rfl, ru⟩ := vals1 r
  obtain ⟨as, rd⟩ := Dp.reads I d _ u hd ru
  obtain rfl : u = Value.ref a := ru
  exact repr_of_reads' rd h1 (PyData.noDict_hsm h2) hg (by omega) (fun _ _ e => e) (fun h' t tk hk => ⟨.str d.shown, H, I.kept (t' := tk) hk, ⟨_, rfl⟩, q⟩) h4
theorem kx_repr {X : Cx} {K : PySem.W.Frag} (h : X.K = K) (hg : X.A.guards = some []) (hu : X.A.units + 65 < cLine) : CallR X (.builtin "repr") (rRepr K) := by subst h; exact cr_repr hg hu
def isSq : DV → Bool
  | .tup _ => true
  | .lst _ => true
  | _ => false
def dRepr : OpA
  | [d] => if ((isSq d && eqok d 20) && ((py d).showable && decide ((py d).shown.length ≤ sizeLine))) = true then .ok (.str (py d).shown) else .stuck
  | _ => .stuck
theorem cs_repr {C : Cxt} {W : Wx} {m : Md} (q : m.rd = true := by rfl) : CallS C W (rRepr C.K) dRepr [m] .fr := call1 fun Γ F H σ ρ L x dx Q r k => by
  have k : PE' C W Γ F H σ ρ L .fr Q (if ((isSq dx && eqok dx 20) && ((py dx).showable && decide ((py dx).shown.length ≤ sizeLine))) = true then .ok (.str (py dx).shown) else .stuck) := k
  split at k
  · rename_i hz
    simp only [Bool.and_eq_true] at hz
    obtain ⟨⟨z1, z2⟩, z3, z4⟩ := hz
    have da := r.da q
    obtain ⟨e1, e2⟩ := eqok_ok dx 20 z2
    have dp := da_dp dx 20 x z2 da
    have hx : ∃ a, x = .ref a := by
      cases dx with
      | tup ds => obtain ⟨a, vs, h1, _⟩ := da; exact ⟨a, h1⟩
      | lst ds => obtain ⟨a, vs, h1, _⟩ := da; exact ⟨a, h1⟩
      | _ => cases z1
    obtain ⟨a, rfl⟩ := hx
    exact ⟨a, py dx, rfl, dp, z3, PyData.hasDict_of_canLay _ e1, e2, of_decide_eq_true z4, k.flat r.tail rfl rfl⟩
  · exact k.elim
end DL
end

/-! text DO2 -/
section
set_option maxRecDepth 100000
set_option maxHeartbeats 4000000
/-! an owned pair unpacked; append to a list that nobody names -/
namespace DL
open PySem PySem.Spec PyProof.Rows L2
section
variable {C : Cxt} {W : Wx} {F F' H H' : Hp} {Γ Γb Γ' : List Md} {σ : L2.St} {ρ : EnvD} {L : List Ent} {m ma mb mr : Md} {d : DV} {v : V} {Dn : Ends}
theorem Rep.untup2 {x y : DV} (r : Rep C F H Γ σ ρ ((.tu m, .tup [x, y], v) :: L)) : ∃ a vx vy, v = .ref a ∧ SqT C.K H a [vx, vy] ∧ Rep C F H Γ σ ρ ((m, y, vy) :: (m, x, vx) :: L) := by
  obtain ⟨f1, f2, nd, a, g1, g2, h1, h2, h3⟩ := r.own
  unfold At at h2
  rw [if_pos (show isTup (.tup [x, y]) = true from rfl)] at h2
  obtain ⟨p, vs, e1, e2, e3⟩ := h2
  obtain ⟨vx, r1, fx, fr, k1, k2, k3, k4⟩ := e3
  obtain ⟨vy, r2, fy, fe, j1, j2, j3, j4⟩ := k4
  obtain ⟨i1, i2⟩ := j4
  subst i1
  subst i2
  subst j1
  subst k1
  subst j2
  subst k2
  subst h1
  refine ⟨p, vx, vy, e1, same_sqt r.fit.fh e2, r.fit, r.io, f1, fy ++ (fx ++ g2), ?_, a, fy, fx ++ g2, rfl, j3, fx, g2, rfl, k3, h3⟩
  refine List.Perm.nodup (List.perm_iff_count.mpr fun b => ?_) nd
  simp only [List.count_append, List.append_nil]
  omega
def gtUp (i j : Nat) : GG := fun d ρ => match d with
  | .tup [x, y] => if (DL.flat x).isSome = true then .ok ((ρ.set i (some x)).set j (some y)) else .stuck
  | _ => .stuck
theorem nx_up {i j : Nat} : ∀ d ρ c e, gtUp i j d ρ ≠ .ex c e := fun d ρ c e h => by
  unfold gtUp at h
  split at h
  · split at h <;> cases h
  · cases h
theorem sn_up {i j : Nat} (hi : Γ[i]? = some .fr) (hj : Γ[j]? = some m) (hio : ∀ p ∈ C.io, ∀ k ∈ [i, j], p.1 ≠ k) (q : m.rd = true := by rfl) : SN C Γ (L2.gTup C.K 2 (L2.gCons (L2.gName i) (L2.gCons (L2.gName j) L2.gNil))) (gtUp i j) (.tu m) [i, j] := by
  intro F H σ ρ L d v ρ' Q r h k
  unfold gtUp at h
  split at h
  · rename_i x y
    split at h
    · rename_i hz
      cases h
      obtain ⟨w, hw⟩ := Option.isSome_iff_exists.mp hz
      obtain ⟨a, vx, vy, e1, e2, r1⟩ := r.untup2
      have r2 : Rep C F H Γ σ ρ ((.fr, x, vx) :: (m, y, vy) :: L) := r1.swap.turn fun f hf => ⟨[], List.nil_sublist _, by
        have e := da_flat hw (r1.swap.da q)
        subst e
        exact At.flat rfl hw⟩
      have li : i < Γ.length := (List.getElem?_eq_some_iff.mp hi).1
      have lj : j < Γ.length := (List.getElem?_eq_some_iff.mp hj).1
      have r3 := r2.put li fun p hp => hio p hp i List.mem_cons_self
      rw [set_id hi] at r3
      have r4 := r3.put lj fun p hp => hio p hp j (List.mem_cons_of_mem _ List.mem_cons_self)
      rw [set_id hj] at r4
      refine ⟨a, [vx, vy], e1, e2, rfl, vx, [vy], rfl, vy, [], rfl, rfl, k _ (fun us hu => ?_) r4⟩
      rw [wipe_set _ j _ us (hu j (List.mem_cons_of_mem _ List.mem_cons_self)), wipe_set _ i _ us (hu i List.mem_cons_self)]
    · cases h
  · cases h
/-! ### e.append(x), e a new list -/
def gAppT (ge gx : GE) : GX := fun ρ => (ge ρ).bind fun d => match d with
  | .lst ds => (gx ρ).bind fun _ => if ds.length < sizeLine then .ok (.non, ρ) else .stuck
  | _ => .stuck
theorem sx_appT {te tx : TE} {ge gx : GE} (he : SE C W Γ te ge (.own m)) (hx : SE C W Γ tx gx m) (hΓ : Γ.all Md.stor = true) (qm : m.stor = true := by rfl) : SX C W Γ (tBM C.K "list" rAppend te (tCons tx tNil)) (gAppT ge gx) .fr := by
  intro F H σ ρ L Q hs r k
  show te σ H fun v H1 => tyV C.K "list" v H1 ∧ tx σ H1 fun y H2 => rAppend v [y] H2 Q
  refine he F H σ ρ L _ hs.ok r ?_
  unfold gAppT at k
  revert k
  cases ge ρ with
  | ex c d => exact fun k F1 H1 s1 s2 f => k F1 H1 s1 f
  | stuck => exact fun k => k
  | ok d =>
    cases d with
    | lst ds =>
      intro k F1 H1 v s1 s2 r1
      have k : PX' C W Γ F H σ L .fr Q ((gx ρ).bind fun _ => if ds.length < sizeLine then .ok (.non, ρ) else .stuck) := k
      obtain ⟨f, hf⟩ := r1.head
      unfold At at hf
      rw [if_pos (show isLD (.lst ds) = true from rfl)] at hf
      obtain ⟨a, ws, o, fc, rfl, _, _, hH, hN, _, _⟩ := hf
      obtain rfl : o = .lst ws := hN
      refine ⟨.inl ⟨rfl, ws, .inl (.inl hH)⟩, ?_⟩
      refine hx F1 H1 σ ρ _ _ (storL_cons qm hs).ok r1 ?_
      revert k
      cases gx ρ with
      | ex c d => exact fun k F2 H2 s3 s4 f => k F2 H2 (s1.trans s3) f
      | stuck => exact fun k => k
      | ok dx =>
        intro k F2 H2 y s3 s4 r2
        have k : PX' C W Γ F H σ L .fr Q (if ds.length < sizeLine then .ok (.non, ρ) else .stuck) := k
        split at k
        · rename_i hz
          obtain ⟨p, vs, z1, z2, z3, z4, z5, z6⟩ := r2.push hΓ qm
          cases z1
          refine ⟨a, vs, y, rfl, rfl, z2, by rw [← z3]; exact hz, ?_⟩
          exact k F2 _ .non (s1.trans s3) ((z6 (Safe.of hs)).tail.cons0 ⟨rfl, rfl⟩)
        · exact k.elim
    | _ => exact fun k => k.elim
theorem kx_fld {X : Cx} {K : PySem.W.Frag} {e : Expr} {f : Str} {pos : Pos} {ta : TE} (h : X.K = K) (he : PE X e ta) (hb : attributeBase e f X.env (eval e X.env) = eval e X.env) : PE X (.Attribute e f pos) (tFld K ta f) := by
  subst h
  exact pe_fld he hb
end
end DL
end

/-! text DLI -/
section
set_option maxRecDepth 100000
set_option maxHeartbeats 4000000
/-! the head of a law without imports whose program has own exceptions: the root's __init__ is looked at, too -/
namespace DL
open PySem PySem.Spec PyProof.Rows L2
abbrev AlY : Type := He.AlD × IniW
def obsYG (n : Nat) (qs : Qs) (fn : List He.DefD) (x : Str) (g : Addr → Option Obj) : AlY := (obsX qs fn (He.frG g (cStatics :: He.asD g n)), iniW (He.frG g (cStatics :: He.asD g n)) x)
def hookY (n : Nat) (qs : Qs) (fn : List He.DefD) (x : Str) (v : IniW) : PySem.W.Hook where
  α := AlY
  obs := fun s => obsYG n qs fn x s.heap.get?
  val := fun _ => (He.valD fn, v)
  says := fun _ h => ∃ K : PySem.W.Frag, K.In h ∧ SaysX qs fn K ∧ iniW K x = v
  of := fun _ _ e => ⟨_, He.frG_in, congrArg Prod.fst e, congrArg Prod.snd e⟩
  keeps := fun _ _ _ ⟨K, hK, c⟩ k => ⟨K, PySem.W.Frag.In.keeps hK k, c⟩
theorem obsYG_eq {n : Nat} {qs : Qs} {fn : List He.DefD} {x : Str} {v : IniW} {g : Addr → Option Obj} {s : Shared} (h : ∀ a, g a = s.heap.get? a) : obsYG n qs fn x g = (hookY n qs fn x v).obs s := by
  have e : g = s.heap.get? := funext h
  rw [e] <;> rfl
end DL
end

/-! text ML -/
section
set_option maxRecDepth 100000
set_option maxHeartbeats 4000000
/-! plain laws, part 0: what the mirrors compute at ints; loops -/
namespace DL
open PySem L2
theorem sz_eq : sizeLine = 16777216 := by decide
theorem dII_ok {p : Int → Int → Bool} {g : Int → Int → DV} {i j : Int} (h : p i j = true) : dII p g (.int i) (.int j) = .ok (g i j) := if_pos h
theorem opOr_l {f g : OpD} {x y d : DV} (h : f x y = .ok d) : opOr f g x y = .ok d := by
  unfold opOr
  rw [h]
section
variable {i j : Int}
theorem dAdd_i : dAdd (.int i) (.int j) = .ok (.int (i + j)) := rfl
theorem dSub_i : dSub (.int i) (.int j) = .ok (.int (i - j)) := rfl
theorem dMul_i (h : mulOk i j = true) : dMul (.int i) (.int j) = .ok (.int (i * j)) := if_pos h
theorem dLt_i : dLt (.int i) (.int j) = .ok (.bl (decide (i < j))) := rfl
theorem dLe_i : dLe (.int i) (.int j) = .ok (.bl (decide (i ≤ j))) := rfl
theorem dGt_i : dGt (.int i) (.int j) = .ok (.bl (decide (j < i))) := rfl
theorem dGe_i : dGe (.int i) (.int j) = .ok (.bl (decide (j ≤ i))) := rfl
theorem dNeg_i : dNeg (.int i) = .ok (.int (-i)) := rfl
theorem dInt_i : dInt [.int i] = .ok (.int i) := rfl
theorem dMod_i (h : 0 < j) : dMod (.int i) (.int j) = .ok (.int (i % j)) := opOr_l (dII_ok (decide_eq_true h))
theorem dDiv_i (h : 0 < j) (h2 : j.natAbs.log2 < 9000) : dDiv (.int i) (.int j) = .ok (.int (i / j)) := opOr_l (dII_ok (by
  unfold divOk
  rw [decide_eq_true h, decide_eq_true h2]
  rfl))
theorem eqv_i : eqv (.int i) (.int j) = decide (i = j) := by
  unfold eqv py
  first
    | rfl
    | (unfold PyData.eqv; rfl)
theorem dEq_i : dEq (.int i) (.int j) = .ok (.bl (decide (i = j))) := by
  unfold dEq
  rw [if_pos (by rfl), eqv_i]
theorem dNe_i : dNe (.int i) (.int j) = .ok (.bl (!decide (i = j))) := by
  unfold dNe
  rw [if_pos (by rfl), eqv_i]
end
/-! evaluation -/
section
variable {ρ : EnvD} {a b c : GE} {op op' : OpD} {g : GX} {ga gr : GA} {f k : GS} {t u : GT}
@[simp] theorem bind_o {α β : Type} {x : α} {h : α → Rs β} : (Rs.ok x).bind h = h x := rfl
@[simp] theorem bind_s {α β : Type} {h : α → Rs β} : (Rs.stuck : Rs α).bind h = .stuck := rfl
@[simp] theorem bind_e {α β : Type} {x : Str} {d : DV} {h : α → Rs β} : (Rs.ex x d : Rs α).bind h = .ex x d := rfl
@[simp] theorem ev_var {i : Nat} : gVar i ρ = lk ρ i := rfl
@[simp] theorem ev_c {d : DV} : gC d ρ = .ok d := rfl
@[simp] theorem ev_bin : gBin op a b ρ = (a ρ).bind fun x => (b ρ).bind fun y => op x y := rfl
@[simp] theorem ev_un {h : DV → Rs DV} : gUn h a ρ = (a ρ).bind h := rfl
@[simp] theorem ev_cb {o : OpA} : gCB o ga ρ = (ga ρ).bind o := rfl
@[simp] theorem ev_nil : aNil ρ = .ok [] := rfl
@[simp] theorem ev_cons : aCons a gr ρ = (a ρ).bind fun x => (gr ρ).bind fun xs => .ok (x :: xs) := rfl
@[simp] theorem ev_pure : gPure a ρ = (a ρ).bind fun d => .ok (d, ρ) := rfl
@[simp] theorem ev_b : gB a ρ = (a ρ).bind asB := rfl
@[simp] theorem ev_asB {z : Bool} : asB (.bl z) = .ok z := rfl
@[simp] theorem ev_next : gNext ρ = .nx ρ := rfl
@[simp] theorem ev_if : gIf t a b ρ = (t ρ).bind fun z => if z = true then a ρ else b ρ := rfl
@[simp] theorem ev_ifT {v : GT} : gIfT t u v ρ = (t ρ).bind fun z => if z = true then u ρ else v ρ := rfl
@[simp] theorem ev_not : gNot t ρ = (t ρ).bind fun z => .ok (!z) := rfl
@[simp] theorem ev_andV : gAndV a b ρ = ((a ρ).bind asB).bind fun z => if z = true then b ρ else .ok (.bl false) := rfl
@[simp] theorem ev_orV : gOrV a b ρ = ((a ρ).bind asB).bind fun z => if z = true then .ok (.bl true) else b ρ := rfl
@[simp] theorem ev_notV : gNotV a ρ = ((a ρ).bind asB).bind fun z => .ok (.bl (!z)) := rfl
@[simp] theorem ev_tup : eTup ga ρ = (ga ρ).bind fun ds => if ds.length ≤ sizeLine then .ok (.tup ds) else .stuck := rfl
@[simp] theorem ev_lst : eLst ga ρ = (ga ρ).bind fun ds => if ds.length ≤ sizeLine then .ok (.lst ds) else .stuck := rfl
@[simp] theorem lk_0 {d : DV} {r : EnvD} : lk (some d :: r) 0 = .ok d := rfl
@[simp] theorem lk_s {x : Option DV} {r : EnvD} {i : Nat} : lk (x :: r) (i + 1) = lk r i := rfl
theorem ev_seq {ρ' : EnvD} (h : f ρ = .nx ρ') : gSeq f k ρ = k ρ' := by
  unfold gSeq
  rw [h]
theorem ev_seqR {ρ' : EnvD} {d : DV} (h : f ρ = .rt d ρ') : gSeq f k ρ = .rt d ρ' := by
  unfold gSeq
  rw [h]
theorem ev_seqE {x : Str} {d : DV} (h : f ρ = .ex x d) : gSeq f k ρ = .ex x d := by
  unfold gSeq
  rw [h]
theorem ev_ifS {z : Bool} (h : t ρ = .ok z) : gIfS t f k ρ = if z = true then f ρ else k ρ := by
  unfold gIfS
  rw [h]
theorem ev_asg {i : Nat} {d : DV} {ρ' : EnvD} (h : g ρ = .ok (d, ρ')) : gAsg g (gtName i) ρ = .nx (ρ'.set i (some d)) := by
  unfold gAsg gtName
  rw [h]
theorem ev_ret {d : DV} {ρ' : EnvD} (h : g ρ = .ok (d, ρ')) : gRet g ρ = .rt d ρ' := by
  unfold gRet
  rw [h]
end
/-- a loop over a range, by an invariant of the number of turns done -/
theorem forG_rng {tg : GG} {b : GS} (I : Nat → EnvD → Prop) (hi : ∀ (i : Nat) (ρ : EnvD), I i ρ → ∃ ρ1 ρ2, tg (.int ((0 : Int) + (i : Int))) ρ = .ok ρ1 ∧ b ρ1 = .nx ρ2 ∧ I (i + 1) ρ2) :
    ∀ (n i : Nat) (ρ : EnvD), I i ρ → ∃ ρ', forG tg b ((List.range' i n).map fun k : Nat => DV.int ((0 : Int) + (k : Int))) ρ = .nx ρ' ∧ I (i + n) ρ'
  | 0, i, ρ, h => ⟨ρ, rfl, h⟩
  | n + 1, i, ρ, h => by
    obtain ⟨ρ1, ρ2, e1, e2, h2⟩ := hi i ρ h
    obtain ⟨ρ', e3, h3⟩ := forG_rng I hi n (i + 1) ρ2 h2
    refine ⟨ρ', ?_, by rw [show i + (n + 1) = i + 1 + n by omega]; exact h3⟩
    rw [List.range'_succ, List.map_cons]
    unfold forG
    rw [e1]
    dsimp only
    rw [e2]
    exact e3
theorem rngD_eq (n : Nat) : rngD 0 n = (List.range' 0 n).map fun k : Nat => DV.int ((0 : Int) + (k : Int)) := by
  unfold rngD
  rw [List.range_eq_range']
end DL
end

/-! text ML1 -/
section
set_option maxRecDepth 100000
set_option maxHeartbeats 4000000
/-! plain laws, part 1: lists of ints -/
namespace DL
open PySem
abbrev di (xs : List Int) : DV := .lst (xs.map DV.int)
theorem lcLoop_map {h : DV → Rs (Option DV)} {f : Int → Int} : ∀ {xs : List Int}, (∀ x ∈ xs, h (.int x) = .ok (some (.int (f x)))) → lcLoop h (xs.map DV.int) = .ok ((xs.map f).map DV.int)
  | [], _ => rfl
  | x :: xs, k => by
    rw [List.map_cons, List.map_cons, List.map_cons]
    unfold lcLoop
    rw [k x List.mem_cons_self]
    dsimp only [Rs.bind]
    rw [lcLoop_map (xs := xs) fun y hy => k y (List.mem_cons_of_mem _ hy)]
    rfl
theorem ixN_nat {n k : Nat} (h : k < n) : L2.ixN n (k : Int) = some k := by
  unfold L2.ixN
  simp
  omega
theorem dIx_i {xs : List Int} {k : Nat} (h : k < xs.length) : dIx (di xs) (.int (k : Int)) = .ok (.int xs[k]) := by
  unfold dIx L2.atI
  simp only [List.length_map]
  rw [ixN_nat h]
  simp [ofO, h]
theorem setD_i {xs : List Int} {k : Nat} {y : Int} (h : k < xs.length) : setD (di xs) (.int (k : Int)) (.int y) = .ok (di (xs.set k y)) := by
  unfold setD
  simp only [List.length_map]
  rw [ixN_nat h]
  simp [List.map_set]
theorem dLen_i {xs : List Int} : dLen [di xs] = .ok (.int xs.length) := by
  simp [dLen]
theorem imms_i (xs : List Int) : imms (xs.map DV.int) = true := by
  induction xs with
  | nil => rfl
  | cons x xs ih => exact (Bool.and_eq_true _ _).mpr ⟨rfl, ih⟩
theorem cut_front {xs : List DV} {n : Nat} : cutD xs none (some (n : Int)) = xs.take n := by
  unfold cutD
  rw [HT.sIx_none, HT.sIx_nat, List.drop_zero, Nat.sub_zero]
  by_cases h : n ≤ xs.length
  · rw [Nat.min_eq_left h]
  · rw [Nat.min_eq_right (by omega), List.take_length, List.take_of_length_le (by omega)]
theorem cut_last {xs : List DV} : cutD xs none (some (-1)) = xs.take (xs.length - 1) := by
  have e : HT.sIx xs.length xs.length (some (-1)) = xs.length - 1 := by
    unfold HT.sIx
    simp
    omega
  unfold cutD
  rw [e, HT.sIx_none, List.drop_zero, Nat.sub_zero]
end DL
end

/-! text ML2 -/
section
set_option maxRecDepth 100000
set_option maxHeartbeats 4000000
/-! plain laws, part 2: how mirrors run, step by step; no step lets the kernel run rngOk at a length that is not written -/
namespace M
open PySem DL
theorem forG_rngB {tg : GG} {b : GS} (N : Nat) (I : Nat → EnvD → Prop) (hi : ∀ (i : Nat) (ρ : EnvD), i < N → I i ρ → ∃ ρ1 ρ2, tg (.int ((0 : Int) + (i : Int))) ρ = .ok ρ1 ∧ b ρ1 = .nx ρ2 ∧ I (i + 1) ρ2)
    (n i : Nat) (ρ : EnvD) (hn : i + n ≤ N) (h : I i ρ) : ∃ ρ', forG tg b ((List.range' i n).map fun k : Nat => DV.int ((0 : Int) + (k : Int))) ρ = .nx ρ' ∧ I (i + n) ρ' := by
  induction n generalizing i ρ with
  | zero => exact ⟨ρ, rfl, h⟩
  | succ n ih =>
    obtain ⟨ρ1, ρ2, e1, e2, h2⟩ := hi i ρ (by omega) h
    obtain ⟨ρ', e3, h3⟩ := ih (i + 1) ρ2 (by omega) h2
    refine ⟨ρ', ?_, by rw [show i + (n + 1) = i + 1 + n by omega]; exact h3⟩
    rw [List.range'_succ, List.map_cons]
    unfold forG
    rw [e1]
    dsimp only
    rw [e2]
    exact e3
theorem forG_cons {tg : GG} {b : GS} {d : DV} {ds : List DV} {ρ ρ1 ρ2 : EnvD} (h1 : tg d ρ = .ok ρ1) (h2 : b ρ1 = .nx ρ2) : forG tg b (d :: ds) ρ = forG tg b ds ρ2 := by
  conv => lhs; unfold forG
  rw [h1]
  dsimp only
  rw [h2]
theorem forG_consR {tg : GG} {b : GS} {d e : DV} {ds : List DV} {ρ ρ1 ρ2 : EnvD} (h1 : tg d ρ = .ok ρ1) (h2 : b ρ1 = .rt e ρ2) : forG tg b (d :: ds) ρ = .rt e ρ2 := by
  conv => lhs; unfold forG
  rw [h1]
  dsimp only
  rw [h2]
theorem lcLoop_gen {α : Type} {h : DV → Rs (Option DV)} {g : α → DV} {f : α → DV} : ∀ {xs : List α}, (∀ x ∈ xs, h (g x) = .ok (some (f x))) → lcLoop h (xs.map g) = .ok (xs.map f)
  | [], _ => rfl
  | x :: xs, k => by
    rw [List.map_cons, List.map_cons]
    unfold lcLoop
    rw [k x List.mem_cons_self]
    dsimp only [Rs.bind]
    rw [lcLoop_gen (xs := xs) fun y hy => k y (List.mem_cons_of_mem _ hy)]
    rfl
theorem lcLoop_rng {h : DV → Rs (Option DV)} {n : Nat} {f : Nat → DV} (k : ∀ i, i < n → h (.int ((0 : Int) + (i : Int))) = .ok (some (f i))) : lcLoop h (rngD 0 n) = .ok ((List.range n).map f) := by
  unfold rngD
  exact lcLoop_gen (g := fun i : Nat => DV.int ((0 : Int) + (i : Int))) fun i hi => k i (List.mem_range.mp hi)
theorem dIx_g {α : Type} {g : α → DV} {xs : List α} {z : Int} (k : Nat) (e : z = (k : Int)) (h : k < xs.length) : dIx (.lst (xs.map g)) (.int z) = .ok (g xs[k]) := by
  subst e
  unfold dIx L2.atI
  simp only [List.length_map]
  rw [ixN_nat h]
  simp [ofO, h]
theorem dLen_g {α : Type} {g : α → DV} {xs : List α} : dLen [.lst (xs.map g)] = .ok (.int xs.length) := by
  simp [dLen]
theorem getD_lt {α : Type} {l : List α} {i : Nat} {d : α} (h : i < l.length) : l.getD i d = l[i] := by
  rw [List.getD_eq_getElem?_getD, List.getElem?_eq_getElem h]
  rfl
theorem mulT {a b : Int} (h : a.natAbs ≤ 1000) : mulOk a b = true := by
  unfold mulOk
  rw [decide_eq_true (Nat.lt_of_le_of_lt h (by decide)), Bool.true_or]
theorem lenG {α : Type} {g : α → DV} {xs : List α} (h : xs.length ≤ 1000) : (xs.map g).length ≤ sizeLine := by rw [List.length_map, sz_eq]; omega
theorem ev_for {gi : GI} {tg : GG} {b : GS} {ρ ρ' : EnvD} {its : List DV} (h1 : gi ρ = .ok its) (h2 : forG tg b its ρ = .nx ρ') : gFor gi tg b ρ = .nx ρ' := by
  unfold gFor
  rw [h1]
  exact h2
theorem ev_forR {gi : GI} {tg : GG} {b : GS} {ρ ρ' : EnvD} {its : List DV} {d : DV} (h1 : gi ρ = .ok its) (h2 : forG tg b its ρ = .rt d ρ') : gFor gi tg b ρ = .rt d ρ' := by
  unfold gFor
  rw [h1]
  exact h2
theorem ev_lc {gi : GI} {tg : GG} {gt : GT} {ge : GE} {vs : List Nat} {ρ : EnvD} {its r : List DV} (h1 : gi ρ = .ok its) (h2 : its.length ≤ sizeLine) (h3 : lcLoop (lcTurn tg gt ge (wipeD ρ vs)) its = .ok r) : gLc gi tg gt ge vs ρ = .ok (.lst r) := by
  unfold gLc
  rw [h1]
  show (if its.length ≤ sizeLine then _ else _) = _
  rw [if_pos h2, h3]
theorem rng_i {i : Int} {n : Nat} (e : i = (n : Int)) (h : n ≤ 1000) : dRng1 [.int i] = .ok (rngD 0 n) := by
  subst e
  have ro : rngOk (n : Int) = true := by unfold rngOk; simp; omega
  unfold dRng1
  dsimp only
  rw [if_pos ro]
  rfl
theorem rng1_e {g : GE} {ρ : EnvD} {i : Int} {n : Nat} (e : g ρ = .ok (.int i)) (e2 : i = (n : Int)) (h : n ≤ 1000) : gRng1 (aCons g aNil) ρ = .ok (rngD 0 n) := by
  unfold gRng1
  rw [ev_cons, e]
  exact rng_i e2 h
theorem rngD_len {n : Nat} (h : n ≤ 1000) : (rngD 0 n).length ≤ sizeLine := by unfold rngD; rw [List.length_map, List.length_range, sz_eq]; omega
theorem len_e {α : Type} {g : α → DV} {xs : List α} {ρ : EnvD} {i : Nat} (e : lk ρ i = .ok (.lst (xs.map g))) : gCB dLen (aCons (gVar i) aNil) ρ = .ok (.int xs.length) := by
  rw [ev_cb, ev_cons, ev_var, e]
  exact dLen_g
theorem ev_skip {t : GT} {f k : GS} {ρ : EnvD} (h : t ρ = .ok false) : gSeq (gIfS t f gNext) k ρ = k ρ := ev_seq (by rw [ev_ifS h]; rfl)
theorem ix3_0 {a b c : DV} : dIx (.tup [a, b, c]) (.int 0) = .ok a := rfl
theorem ix3_1 {a b c : DV} : dIx (.tup [a, b, c]) (.int 1) = .ok b := rfl
theorem ix3_2 {a b c : DV} : dIx (.tup [a, b, c]) (.int 2) = .ok c := rfl
section
variable {ρ : EnvD} {a b c g : GE} {o : OpA} {x y z d : DV} {i : Nat}
theorem cb1 (h : a ρ = .ok x) : gCB o (aCons a aNil) ρ = o [x] := by
  rw [ev_cb, ev_cons, h]
  rfl
theorem cb2 (h : a ρ = .ok x) (h2 : b ρ = .ok y) : gCB o (aCons a (aCons b aNil)) ρ = o [x, y] := by
  rw [ev_cb, ev_cons, h, ev_cons, h2]
  rfl
theorem cb3 (h : a ρ = .ok x) (h2 : b ρ = .ok y) (h3 : c ρ = .ok z) : gCB o (aCons a (aCons b (aCons c aNil))) ρ = o [x, y, z] := by
  rw [ev_cb, ev_cons, h, ev_cons, h2, ev_cons, h3]
  rfl
theorem ret_e (h : g ρ = .ok d) : gRet (gPure g) ρ = .rt d ρ := ev_ret (by rw [ev_pure, h])
theorem set_e (h : g ρ = .ok d) : gAsg (gPure g) (gtName i) ρ = .nx (ρ.set i (some d)) := ev_asg (by rw [ev_pure, h])
theorem nx_e (h : g ρ = .ok d) : gNX g ρ = .ok d := by
  unfold gNX
  rw [h]
theorem drop_e (h : g ρ = .ok d) : gDrop (gPure g) ρ = .nx ρ := by
  unfold gDrop
  rw [ev_pure, h]
theorem drop_x {cn : Str} (h : g ρ = .ex cn d) : gDrop (gPure g) ρ = .ex cn d := by
  unfold gDrop
  rw [ev_pure, h]
theorem lenD_e {α : Type} {f : α → DV} {xs : List α} (e : a ρ = .ok (.lst (xs.map f))) : gCB dLen (aCons a aNil) ρ = .ok (.int xs.length) := by
  rw [cb1 e]
  exact dLen_g
theorem ne_e {u v : Int} (h : a ρ = .ok (.int u)) (h2 : b ρ = .ok (.int v)) : gB (gBin dNe a b) ρ = .ok (!decide (u = v)) := by
  rw [ev_b, ev_bin, h]
  dsimp only [Rs.bind]
  rw [h2]
  dsimp only [Rs.bind]
  rw [dNe_i]
  rfl
end
theorem seq_e {α : Type} {g : GE} {f : α → DV} {xs : List α} {ρ : EnvD} (e : g ρ = .ok (.lst (xs.map f))) : gSeqI g ρ = .ok (xs.map f) := by
  unfold gSeqI
  rw [e]
  rfl
theorem tup2 {a b : GE} {ρ : EnvD} {x y : DV} (h1 : a ρ = .ok x) (h2 : b ρ = .ok y) : eTup (aCons a (aCons b aNil)) ρ = .ok (.tup [x, y]) := by
  rw [ev_tup, ev_cons, h1, ev_cons, h2]
  show (if 0 + 1 + 1 ≤ sizeLine then _ else _) = _
  rw [if_pos (by decide)]
theorem bin_e {o : OpD} {a b : GE} {ρ : EnvD} {x y : DV} (h1 : a ρ = .ok x) (h2 : b ρ = .ok y) : gBin o a b ρ = o x y := by
  rw [ev_bin, h1]
  dsimp only [Rs.bind]
  rw [h2]
theorem b_e {a : GE} {ρ : EnvD} {z : Bool} (h : a ρ = .ok (.bl z)) : gB a ρ = .ok z := by
  rw [ev_b, h]
  rfl
theorem notV_e {a : GE} {ρ : EnvD} {z : Bool} (h : a ρ = .ok (.bl z)) : gNotV a ρ = .ok (.bl (!z)) := by
  rw [ev_notV, h]
  rfl
theorem and_e {s t : GT} {ρ : EnvD} {x y : Bool} (h1 : s ρ = .ok x) (h2 : t ρ = .ok y) : gAnd s t ρ = .ok (x && y) := by
  unfold gAnd
  rw [h1]
  cases x
  · rfl
  · exact h2
theorem or_e {s t : GT} {ρ : EnvD} {x y : Bool} (h1 : s ρ = .ok x) (h2 : t ρ = .ok y) : gOr s t ρ = .ok (x || y) := by
  unfold gOr
  rw [h1]
  cases x
  · exact h2
  · rfl
theorem lc_yes {tg : GG} {gt : GT} {ge : GE} {ρ ρ1 : EnvD} {d x : DV} (h1 : tg d ρ = .ok ρ1) (h2 : gt ρ1 = .ok true) (h3 : ge ρ1 = .ok x) : lcTurn tg gt ge ρ d = .ok (some x) := by
  unfold lcTurn
  rw [h1]
  dsimp only [Rs.bind]
  rw [h2]
  dsimp only
  rw [if_pos rfl, h3]
theorem lc_no {tg : GG} {gt : GT} {ge : GE} {ρ ρ1 : EnvD} {d : DV} (h1 : tg d ρ = .ok ρ1) (h2 : gt ρ1 = .ok false) : lcTurn tg gt ge ρ d = .ok none := by
  unfold lcTurn
  rw [h1]
  dsimp only [Rs.bind]
  rw [h2]
  dsimp only
  rw [if_neg (by decide)]
theorem lcLoop_none {α : Type} {h : DV → Rs (Option DV)} {g : α → DV} : ∀ {xs : List α}, (∀ x ∈ xs, h (g x) = .ok none) → lcLoop h (xs.map g) = .ok []
  | [], _ => rfl
  | x :: xs, k => by
    rw [List.map_cons]
    unfold lcLoop
    rw [k x List.mem_cons_self]
    dsimp only [Rs.bind]
    rw [lcLoop_none (xs := xs) fun y hy => k y (List.mem_cons_of_mem _ hy)]
    rfl
theorem dAll_e {α : Type} {f : α → Bool} : ∀ {xs : List α}, bls (xs.map fun x => DV.bl (f x)) = some (xs.map f)
  | [] => rfl
  | x :: xs => by
    rw [List.map_cons]
    unfold bls
    rw [dAll_e (xs := xs)]
    rfl
theorem dAll_ok {α : Type} {f : α → Bool} {xs : List α} : dAll [.lst (xs.map fun x => DV.bl (f x))] = .ok (.bl (xs.all f)) := by
  have e : dAll [.lst (xs.map fun x => DV.bl (f x))] = (match bls (xs.map fun x => DV.bl (f x)) with | some ns => .ok (.bl (ns.all id)) | none => .stuck) := rfl
  rw [e, dAll_e]
  simp [List.all_map]
theorem forG_list {α : Type} {g : α → DV} {tg : GG} {b : GS} (N : Nat) (I : List α → EnvD → Prop) : ∀ (xs done : List α) (ρ : EnvD), done.length + xs.length ≤ N → (∀ (x : α) (done : List α) (ρ : EnvD), x ∈ xs → done.length < N → I done ρ → ∃ ρ1 ρ2, tg (g x) ρ = .ok ρ1 ∧ b ρ1 = .nx ρ2 ∧ I (done ++ [x]) ρ2) → I done ρ →
    ∃ ρ', forG tg b (xs.map g) ρ = .nx ρ' ∧ I (done ++ xs) ρ'
  | [], done, ρ, _, _, h => ⟨ρ, rfl, by rw [List.append_nil]; exact h⟩
  | x :: xs, done, ρ, hN, hi, h => by
    rw [List.length_cons] at hN
    obtain ⟨ρ1, ρ2, e1, e2, h2⟩ := hi x done ρ List.mem_cons_self (by omega) h
    obtain ⟨ρ', e3, h3⟩ := forG_list N I xs (done ++ [x]) ρ2 (by rw [List.length_append]; show done.length + 1 + _ ≤ N; omega) (fun y d r hy => hi y d r (List.mem_cons_of_mem _ hy)) h2
    refine ⟨ρ', ?_, by rw [List.append_assoc] at h3; exact h3⟩
    rw [List.map_cons, forG_cons e1 e2]
    exact e3
theorem app_g {α : Type} {g : α → DV} {xs : List α} {x : α} {i : Nat} {ρ : EnvD} {ge : GE} (h1 : lk ρ i = .ok (.lst (xs.map g))) (h2 : ge ρ = .ok (g x)) (h : xs.length ≤ 1000) : gDrop (gApp i (gPure ge)) ρ = .nx (ρ.set i (some (.lst ((xs ++ [x]).map g)))) := by
  unfold gDrop gApp
  rw [h1]
  dsimp only
  rw [ev_pure, h2]
  dsimp only [Rs.bind]
  rw [h1]
  dsimp only
  rw [if_pos (by rw [List.length_map, sz_eq]; omega), List.map_append]
  rfl
theorem tup3 {a b c : GE} {ρ : EnvD} {x y z : DV} (h1 : a ρ = .ok x) (h2 : b ρ = .ok y) (h3 : c ρ = .ok z) : eTup (aCons a (aCons b (aCons c aNil))) ρ = .ok (.tup [x, y, z]) := by
  rw [ev_tup, ev_cons, h1, ev_cons, h2, ev_cons, h3]
  show (if 0 + 1 + 1 + 1 ≤ sizeLine then _ else _) = _
  rw [if_pos (by decide)]
theorem md {z n : Int} (h : 0 < n) : dMod (.int z) (.int n) = .ok (.int (z % n)) := dMod_i h
theorem cb5 {a b c d e : GE} {o : OpA} {ρ : EnvD} {x1 x2 x3 x4 x5 : DV} (h1 : a ρ = .ok x1) (h2 : b ρ = .ok x2) (h3 : c ρ = .ok x3) (h4 : d ρ = .ok x4) (h5 : e ρ = .ok x5) : gCB o (aCons a (aCons b (aCons c (aCons d (aCons e aNil))))) ρ = o [x1, x2, x3, x4, x5] := by
  rw [ev_cb, ev_cons, h1, ev_cons, h2, ev_cons, h3, ev_cons, h4, ev_cons, h5]
  rfl
theorem app_raw {ds : List DV} {d : DV} {i : Nat} {ρ : EnvD} {ge : GE} (h1 : lk ρ i = .ok (.lst ds)) (h2 : ge ρ = .ok d) (h : ds.length ≤ 1000) : gDrop (gApp i (gPure ge)) ρ = .nx (ρ.set i (some (.lst (ds ++ [d])))) := by
  unfold gDrop gApp
  rw [h1]
  dsimp only
  rw [ev_pure, h2]
  dsimp only [Rs.bind]
  rw [h1]
  dsimp only
  rw [if_pos (by rw [sz_eq]; omega)]
theorem cut_tail {xs : List DV} : cutD xs (some 1) none = xs.drop 1 := by
  unfold cutD
  rw [show (1 : Int) = ((1 : Nat) : Int) from rfl, HT.sIx_nat, HT.sIx_none]
  cases xs with
  | nil => rfl
  | cons x xs =>
    have e : min 1 (x :: xs).length = 1 := by rw [List.length_cons]; omega
    rw [e]
    show xs.take (xs.length + 1 - 1) = xs
    rw [Nat.add_sub_cancel, List.take_length]
theorem ok_mem {x : Str} : PyData.strOk x = true ↔ ∀ c ∈ x.cps.toList, c < 0x110000 := by
  unfold PyData.strOk
  rw [← Array.all_toList, List.all_eq_true]
  exact ⟨fun h c hc => of_decide_eq_true (h c hc), fun h c hc => decide_eq_true (h c hc)⟩
theorem ok_app {x y : Str} (h1 : PyData.strOk x = true) (h2 : PyData.strOk y = true) : PyData.strOk (x ++ y) = true := by
  rw [ok_mem] at h1 h2 ⊢
  intro c hc
  have e : (x ++ y).cps.toList = x.cps.toList ++ y.cps.toList := by
    show (x.cps ++ y.cps).toList = _
    rw [Array.toList_append]
  rw [e] at hc
  rcases List.mem_append.mp hc with z | z
  · exact h1 c z
  · exact h2 c z
theorem ok_int {i : Int} : PyData.strOk (PyData.shown (.int i)) = true := by
  rw [ok_mem]
  intro c hc
  refine Classical.byContradiction fun z => ?_
  exact PyProof.Rows.shown_int_free' (k := c) ⟨by omega, by omega⟩ i hc
theorem ok_from : ∀ {ts : List Str} {k : Nat} {acc : Str}, PyData.strOk acc = true → (∀ t ∈ ts, PyData.strOk t = true) → PyData.strOk (textFrom k acc ts) = true
  | [], k, acc, h, _ => h
  | t :: ts, k, acc, h, g => by
    show PyData.strOk (textFrom (k + 1) (acc ++ ((if k > 0 then ", " else "" : String) : Str) ++ t) ts) = true
    refine ok_from (ok_app (ok_app h ?_) (g t List.mem_cons_self)) fun u hu => g u (List.mem_cons_of_mem _ hu)
    split <;> decide +kernel
theorem ne_str {x : Str} (h : PyData.strOk x = true) : dNe (.str x) (.str x) = .ok (.bl false) := by
  unfold dNe
  rw [if_pos (by show (PyData.strOk x && PyData.strOk x) = true; rw [h]; rfl)]
  simp [eqv, py, PyData.eqv]
end M
end

/-! text Mir -/
section
set_option maxRecDepth 100000
set_option maxHeartbeats 8000000
namespace M
open PySem PySem.Spec PyProof.Rows L2 DL
abbrev N_check_edge : List Str := ["size", "edge", "number", "u", "v", "price"]
def b_check_edge : GS := (gSeq (gAsg (gPure (gVar 1)) (gtTup [3, 4, 5])) (gSeq (gIfS (gOr (gNot (gB (gChain dLe dLt (gC (.int 0)) (gVar 3) (gVar 0)))) (gOr (gNot (gB (gChain dLe dLt (gC (.int 0)) (gVar 4) (gVar 0)))) (gB (gBin dEq (gVar 3) (gVar 4))))) (gRaise "BadVertex" (aCons (gVar 2) aNil)) gNext) (gIfS (gNot (gB (gChain dLe dLe (gC (.int 0)) (gVar 5) (gC (.int 1048576))))) (gRaise "BadPrice" (aCons (gVar 2) aNil)) gNext)))
def m_check_edge : List DV → Rs DV := runB b_check_edge 6
abbrev N__law_draws : List Str := ["_law_script", "_law_draws_here", "_law_k", "_law_rest", "_law_turn", "_law_mixed"]
def b__law_draws : GS := (gSeq (gAsg (gPure (eLst aNil)) (gtName 1)) (gSeq (gFor (gRng1 (aCons (gCB dMin2 (aCons (gC (.int 63)) (aCons (gCB dLen (aCons (gVar 0) aNil)) aNil))) aNil)) (gtName 2) (gSeq (gAsg (gPure (gCB dAbs (aCons (gBin dIx (gVar 0) (gVar 2)) aNil))) (gtName 3)) (gIfS (gB (gBin dGe (gVar 3) (gBin dPow (gC (.int 10)) (gC (.int 18))))) (gFor (gRng1 (aCons (gC (.int 60)) aNil)) (gtName 4) (gIfS (gB (gBin dGt (gVar 3) (gC (.int 0)))) (gSeq (gDrop (gApp 1 (gPure (gBin dMod (gCB dInt (aCons (gVar 3) aNil)) (gC (.int 65536)))))) (gAsg (gPure (gBin dDiv (gVar 3) (gC (.int 65536)))) (gtName 3))) gNext)) (gSeq (gAsg (gPure (gBin dMod (gCB dInt (aCons (gBin dAdd (gBin dMul (gVar 3) (gC (.int 48271))) (gBin dMul (gBin dAdd (gVar 2) (gC (.int 1))) (gC (.int 69621)))) aNil)) (gC (.int 2147483647)))) (gtName 5)) (gSeq (gAsg (gPure (gBin dMod (gCB dInt (aCons (gBin dAdd (gBin dAdd (gBin dMul (gVar 5) (gC (.int 16807))) (gBin dMul (gC (.int 11)) (gVar 2))) (gC (.int 5))) aNil)) (gC (.int 2147483629)))) (gtName 5)) (gSeq (gDrop (gApp 1 (gPure (gBin dMod (gCB dInt (aCons (gVar 5) aNil)) (gC (.int 65536)))))) (gDrop (gApp 1 (gPure (gBin dMod (gCB dInt (aCons (gBin dDiv (gVar 5) (gC (.int 65536))) aNil)) (gC (.int 32768)))))))))))) (gRet (gMove 1))))
def m__law_draws : List DV → Rs DV := runB b__law_draws 6
abbrev N__law_mix : List Str := ["_law_draws_here", "_law_k", "_law_many", "_law_value"]
def b__law_mix : GS := (gSeq (gAsg (gPure (gC (.int 0))) (gtName 3)) (gSeq (gIfS (gB (gBin dGt (gCB dLen (aCons (gVar 0) aNil)) (gC (.int 0)))) (gAsg (gPure (gBin dIx (gVar 0) (gBin dMod (gCB dInt (aCons (gVar 1) aNil)) (gCB dLen (aCons (gVar 0) aNil))))) (gtName 3)) gNext) (gSeq (gIfS (gB (gBin dLt (gVar 1) (gCB dLen (aCons (gVar 0) aNil)))) (gRet (gPure (gBin dMod (gCB dInt (aCons (gVar 3) aNil)) (gVar 2)))) gNext) (gRet (gPure (gBin dMod (gCB dInt (aCons (gBin dDiv (gCB dInt (aCons (gBin dAdd (gBin dMul (gVar 3) (gC (.int 7919))) (gBin dMul (gVar 1) (gC (.int 104729)))) aNil)) (gC (.int 3))) aNil)) (gVar 2)))))))
def m__law_mix : List DV → Rs DV := runB b__law_mix 4
abbrev N__law_network : List Str := ["_law_draws_here", "_law_k", "_law_sizes", "_law_many", "_law_top", "_law_size", "_law_edges", "_law_j", "_law_u", "_law_v"]
def b__law_network : GS := (gSeq (gAsg (gPure (gBin dAdd (gC (.int 1)) (gCB m__law_mix (aCons (gVar 0) (aCons (gVar 1) (aCons (gVar 2) aNil)))))) (gtName 5)) (gSeq (gAsg (gPure (eLst aNil)) (gtName 6)) (gSeq (gIfS (gB (gBin dGt (gVar 5) (gC (.int 1)))) (gFor (gRng1 (aCons (gCB m__law_mix (aCons (gVar 0) (aCons (gBin dAdd (gVar 1) (gC (.int 1))) (aCons (gBin dAdd (gVar 3) (gC (.int 1))) aNil)))) aNil)) (gtName 7) (gSeq (gAsg (gPure (gCB m__law_mix (aCons (gVar 0) (aCons (gBin dAdd (gBin dAdd (gVar 1) (gC (.int 3))) (gBin dMul (gC (.int 3)) (gVar 7))) (aCons (gVar 5) aNil))))) (gtName 8)) (gSeq (gAsg (gPure (gBin dMod (gCB dInt (aCons (gBin dAdd (gBin dAdd (gVar 8) (gC (.int 1))) (gCB m__law_mix (aCons (gVar 0) (aCons (gBin dAdd (gBin dAdd (gVar 1) (gC (.int 4))) (gBin dMul (gC (.int 3)) (gVar 7))) (aCons (gBin dSub (gVar 5) (gC (.int 1))) aNil))))) aNil)) (gVar 5))) (gtName 9)) (gDrop (gApp 6 (gPure (eTup (aCons (gVar 8) (aCons (gVar 9) (aCons (gCB m__law_mix (aCons (gVar 0) (aCons (gBin dAdd (gBin dAdd (gVar 1) (gC (.int 5))) (gBin dMul (gC (.int 3)) (gVar 7))) (aCons (gVar 4) aNil)))) aNil)))))))))) gNext) (gRet (xTup (xCons (gPure (gFlat (gVar 5))) (xCons (gMove 6) xNil)))))))
def m__law_network : List DV → Rs DV := runB b__law_network 10
abbrev N_Network___init__ : List Str := ["self", "size", "edges", "number"]
def b_Network___init__ : GS := (gSeq (gIfS (gNot (gB (gChain dLe dLe (gC (.int 1)) (gVar 1) (gC (.int 40))))) (gRaise "OutOfRange" (aCons (gVar 1) aNil)) gNext) (gSeq (gIfS (gB (gBin dGt (gCB dLen (aCons (gVar 2) aNil)) (gC (.int 200)))) (gRaise "TooMany" (aCons (gCB dLen (aCons (gVar 2) aNil)) aNil)) gNext) (gSeq (gFor (gRng1 (aCons (gCB dLen (aCons (gVar 2) aNil)) aNil)) (gtName 3) (gDrop (gPure (gCB m_check_edge (aCons (gVar 1) (aCons (gImm (gBin dIx (gVar 2) (gVar 3))) (aCons (gVar 3) aNil))))))) (gSeq (gSetF 0 "Network" "_size" (gPure (gVar 1))) (gSetF 0 "Network" "_edges" (gPure (gCB dList (aCons (gImmL (gVar 2)) aNil))))))))
def m_Network___init__ : List DV → Rs DV := runN "Network" b_Network___init__ 3
abbrev N__law_made : List Str := ["_law_size", "_law_edges", "error", "_law_kinds"]
def b__law_made : GS := (gSeq (gTry 4 (gDrop (gPure (gCB m_Network___init__ (aCons (gVar 0) (aCons (gVar 1) aNil))))) (fun c d => (gSeq (gAsg (gPure (eLst (aCons (gIsX (decide (c = "OutOfRange"))) (aCons (gIsX (decide (c = "TooMany"))) (aCons (gIsX (decide (c = "BadVertex"))) aNil))))) (gtName 3)) (gRet (gPure (eTup (aCons (gBin dAdd (gVar 3) (eLst (aCons (gIsX (decide (c = "BadPrice"))) aNil))) (aCons (gAt d) aNil)))))))) (gRet (gPure (gC .non))))
def m__law_made : List DV → Rs DV := runB b__law_made 4
abbrev N__law_due : List Str := ["_law_size", "_law_edges", "_law_k", "_law_u", "_law_v", "_law_price"]
def b__law_due : GS := (gSeq (gIfS (gNot (gB (gChain dLe dLe (gC (.int 1)) (gVar 0) (gC (.int 40))))) (gRet (gPure (eTup (aCons (eLst (aCons (gC (.bl true)) (aCons (gC (.bl false)) (aCons (gC (.bl false)) (aCons (gC (.bl false)) aNil))))) (aCons (gVar 0) aNil))))) gNext) (gSeq (gIfS (gB (gBin dGt (gCB dLen (aCons (gVar 1) aNil)) (gC (.int 200)))) (gRet (gPure (eTup (aCons (eLst (aCons (gC (.bl false)) (aCons (gC (.bl true)) (aCons (gC (.bl false)) (aCons (gC (.bl false)) aNil))))) (aCons (gCB dLen (aCons (gVar 1) aNil)) aNil))))) gNext) (gSeq (gFor (gRng1 (aCons (gCB dLen (aCons (gVar 1) aNil)) aNil)) (gtName 2) (gSeq (gAsg (gPure (gBin dIx (gVar 1) (gVar 2))) (gtTup [3, 4, 5])) (gSeq (gIfS (gOr (gNot (gB (gChain dLe dLt (gC (.int 0)) (gVar 3) (gVar 0)))) (gOr (gNot (gB (gChain dLe dLt (gC (.int 0)) (gVar 4) (gVar 0)))) (gB (gBin dEq (gVar 3) (gVar 4))))) (gRet (gPure (eTup (aCons (eLst (aCons (gC (.bl false)) (aCons (gC (.bl false)) (aCons (gC (.bl true)) (aCons (gC (.bl false)) aNil))))) (aCons (gVar 2) aNil))))) gNext) (gIfS (gNot (gB (gChain dLe dLe (gC (.int 0)) (gVar 5) (gC (.int 1048576))))) (gRet (gPure (eTup (aCons (eLst (aCons (gC (.bl false)) (aCons (gC (.bl false)) (aCons (gC (.bl false)) (aCons (gC (.bl true)) aNil))))) (aCons (gVar 2) aNil))))) gNext)))) (gRet (gPure (gC .non))))))
def m__law_due : List DV → Rs DV := runB b__law_due 6
abbrev N_Network_check_vertex : List Str := ["self", "vertex"]
def b_Network_check_vertex : GS := (gIfS (gNot (gB (gChain dLe dLt (gC (.int 0)) (gVar 1) (gFld "Network" "_size" (gVar 0))))) (gRaise "BadVertex" (aCons (gVar 1) aNil)) gNext)
def m_Network_check_vertex : List DV → Rs DV := runB b_Network_check_vertex 2
abbrev N_Network_around : List Str := ["self", "vertex", "k"]
def b_Network_around : GS := (gSeq (gDrop (gPure (gMeth "Network" "check_vertex" m_Network_check_vertex (gVar 0) (aCons (gVar 1) aNil)))) (gRet (gPure (gLc (gRng1 (aCons (gCB dLen (aCons (gFld "Network" "_edges" (gVar 0)) aNil)) aNil)) (gtName 2) (gB (gBin dIn (gVar 1) (gSl (gBin dIx (gFld "Network" "_edges" (gVar 0)) (gVar 2)) gNoPart (gPart (gC (.int 2)))))) (gVar 2) [2]))))
def m_Network_around : List DV → Rs DV := runB b_Network_around 3
abbrev N_Network_leaving : List Str := ["self", "vertex", "k"]
def b_Network_leaving : GS := (gSeq (gDrop (gPure (gMeth "Network" "check_vertex" m_Network_check_vertex (gVar 0) (aCons (gVar 1) aNil)))) (gRet (gPure (gLc (gRng1 (aCons (gCB dLen (aCons (gFld "Network" "_edges" (gVar 0)) aNil)) aNil)) (gtName 2) (gB (gBin dEq (gBin dIx (gBin dIx (gFld "Network" "_edges" (gVar 0)) (gVar 2)) (gC (.int 0))) (gVar 1))) (gVar 2) [2]))))
def m_Network_leaving : List DV → Rs DV := runB b_Network_leaving 3
abbrev N_Network_entering : List Str := ["self", "vertex", "k"]
def b_Network_entering : GS := (gSeq (gDrop (gPure (gMeth "Network" "check_vertex" m_Network_check_vertex (gVar 0) (aCons (gVar 1) aNil)))) (gRet (gPure (gLc (gRng1 (aCons (gCB dLen (aCons (gFld "Network" "_edges" (gVar 0)) aNil)) aNil)) (gtName 2) (gB (gBin dEq (gBin dIx (gBin dIx (gFld "Network" "_edges" (gVar 0)) (gVar 2)) (gC (.int 1))) (gVar 1))) (gVar 2) [2]))))
def m_Network_entering : List DV → Rs DV := runB b_Network_entering 3
abbrev N_Network_with_price : List Str := ["self", "number", "price", "u", "v", "_", "edges"]
def b_Network_with_price : GS := (gSeq (gIfS (gNot (gB (gChain dLe dLt (gC (.int 0)) (gVar 1) (gCB dLen (aCons (gFld "Network" "_edges" (gVar 0)) aNil))))) (gRaise "BadEdge" (aCons (gVar 1) aNil)) gNext) (gSeq (gAsg (gPure (gBin dIx (gFld "Network" "_edges" (gVar 0)) (gVar 1))) (gtTup [3, 4, 5])) (gSeq (gDrop (gPure (gCB m_check_edge (aCons (gFld "Network" "_size" (gVar 0)) (aCons (eTup (aCons (gVar 3) (aCons (gVar 4) (aCons (gVar 2) aNil)))) (aCons (gVar 1) aNil)))))) (gSeq (gAsg (gPure (gCB dList (aCons (gFld "Network" "_edges" (gVar 0)) aNil))) (gtName 6)) (gSeq (gSetI 6 (gVar 1) (gPure (eTup (aCons (gVar 3) (aCons (gVar 4) (aCons (gVar 2) aNil)))))) (gRet (gPure (gCB m_Network___init__ (aCons (gFld "Network" "_size" (gVar 0)) (aCons (gVar 6) aNil))))))))))
def m_Network_with_price : List DV → Rs DV := runB b_Network_with_price 7
abbrev N__law_refused : List Str := ["_law_way", "_law_network_here", "_law_number", "_law_price", "error"]
def b__law_refused : GS := (gSeq (gTry 5 (gIfS (gB (gBin dEq (gVar 0) (gC (.int 0)))) (gDrop (gPure (gMeth "Network" "around" m_Network_around (gVar 1) (aCons (gVar 2) aNil)))) (gIfS (gB (gBin dEq (gVar 0) (gC (.int 1)))) (gDrop (gPure (gMeth "Network" "leaving" m_Network_leaving (gVar 1) (aCons (gVar 2) aNil)))) (gIfS (gB (gBin dEq (gVar 0) (gC (.int 2)))) (gDrop (gPure (gMeth "Network" "entering" m_Network_entering (gVar 1) (aCons (gVar 2) aNil)))) (gDrop (gPure (gMeth "Network" "with_price" m_Network_with_price (gVar 1) (aCons (gVar 2) (aCons (gVar 3) aNil)))))))) (fun c d => (gRet (gPure (eTup (aCons (eLst (aCons (gIsX (decide (c = "BadVertex"))) (aCons (gIsX (decide (c = "BadEdge"))) (aCons (gIsX (decide (c = "BadPrice"))) aNil)))) (aCons (gAt d) aNil))))))) (gRet (gPure (gC .non))))
def m__law_refused : List DV → Rs DV := runB b__law_refused 5
abbrev N_Network_size : List Str := ["self"]
def b_Network_size : GS := (gRet (gPure (gFld "Network" "_size" (gVar 0))))
def m_Network_size : List DV → Rs DV := runB b_Network_size 1
abbrev N_Network_edges : List Str := ["self"]
def b_Network_edges : GS := (gRet (gPure (gCB dList (aCons (gFld "Network" "_edges" (gVar 0)) aNil))))
def m_Network_edges : List DV → Rs DV := runB b_Network_edges 1
abbrev N_Network_other_end : List Str := ["self", "number", "vertex", "u", "v", "_"]
def b_Network_other_end : GS := (gSeq (gAsg (gPure (gBin dIx (gFld "Network" "_edges" (gVar 0)) (gVar 1))) (gtTup [3, 4, 5])) (gRet (gPure (gBin dSub (gBin dAdd (gVar 3) (gVar 4)) (gVar 2)))))
def m_Network_other_end : List DV → Rs DV := runB b_Network_other_end 6
abbrev N__law_alike : List Str := ["_law_network_here", "_law_size", "_law_edges", "_law_vertex", "_law_around", "_law_k"]
def b__law_alike : GS := (gSeq (gIfS (gOr (gB (gBin dNe (gMeth "Network" "size" m_Network_size (gVar 0) aNil) (gVar 1))) (gB (gBin dNe (gMeth "Network" "edges" m_Network_edges (gVar 0) aNil) (gVar 2)))) (gRet (gPure (gC (.bl false)))) gNext) (gSeq (gFor (gRng1 (aCons (gVar 1) aNil)) (gtName 3) (gSeq (gAsg (gPure (gLc (gRng1 (aCons (gCB dLen (aCons (gVar 2) aNil)) aNil)) (gtName 5) (gB (gBin dIn (gVar 3) (gSl (gBin dIx (gVar 2) (gVar 5)) gNoPart (gPart (gC (.int 2)))))) (gVar 5) [5])) (gtName 4)) (gSeq (gIfS (gB (gBin dNe (gMeth "Network" "around" m_Network_around (gVar 0) (aCons (gVar 3) aNil)) (gVar 4))) (gRet (gPure (gC (.bl false)))) gNext) (gSeq (gIfS (gB (gBin dNe (gMeth "Network" "leaving" m_Network_leaving (gVar 0) (aCons (gVar 3) aNil)) (gLc (gSeqI (gVar 4)) (gtName 5) (gB (gBin dEq (gBin dIx (gBin dIx (gVar 2) (gVar 5)) (gC (.int 0))) (gVar 3))) (gVar 5) [5]))) (gRet (gPure (gC (.bl false)))) gNext) (gSeq (gIfS (gB (gBin dNe (gMeth "Network" "entering" m_Network_entering (gVar 0) (aCons (gVar 3) aNil)) (gLc (gSeqI (gVar 4)) (gtName 5) (gB (gBin dEq (gBin dIx (gBin dIx (gVar 2) (gVar 5)) (gC (.int 1))) (gVar 3))) (gVar 5) [5]))) (gRet (gPure (gC (.bl false)))) gNext) (gFor (gSeqI (gVar 4)) (gtName 5) (gIfS (gB (gBin dNe (gMeth "Network" "other_end" m_Network_other_end (gVar 0) (aCons (gVar 5) (aCons (gVar 3) aNil))) (gBin dSub (gBin dAdd (gBin dIx (gBin dIx (gVar 2) (gVar 5)) (gC (.int 0))) (gBin dIx (gBin dIx (gVar 2) (gVar 5)) (gC (.int 1)))) (gVar 3)))) (gRet (gPure (gC (.bl false)))) gNext))))))) (gRet (gPure (gC (.bl true))))))
def m__law_alike : List DV → Rs DV := runB b__law_alike 6
abbrev N__law_bad_ones : List Str := ["_law_draws_here", "_law_size", "_law_edges", "_law_rows", "_law_turn", "_law_bad", "_law_j", "_law_u", "_law_v", "_law_price", "_law_edge", "_law_at"]
def b__law_bad_ones : GS := (gSeq (gAsg (gPure (eLst (aCons (eTup (aCons (gBin dSub (gCB m__law_mix (aCons (gVar 0) (aCons (gC (.int 9)) (aCons (gC (.int 3)) aNil)))) (gC (.int 2))) (aCons (gVar 2) aNil))) (aCons (eTup (aCons (gBin dAdd (gC (.int 41)) (gCB m__law_mix (aCons (gVar 0) (aCons (gC (.int 9)) (aCons (gC (.int 50)) aNil))))) (aCons (gVar 2) aNil))) (aCons (eTup (aCons (gVar 1) (aCons (gBin dAdd (gVar 2) (gBin dRep (eLst (aCons (eTup (aCons (gC (.int 0)) (aCons (gC (.int 1)) (aCons (gC (.int 5)) aNil)))) aNil)) (gC (.int 201)))) aNil))) aNil))))) (gtName 3)) (gSeq (gFor (gRng1 (aCons (gC (.int 4)) aNil)) (gtName 4) (gSeq (gAsg (gPure (gCB dList (aCons (gVar 2) aNil))) (gtName 5)) (gSeq (gFor (gRng1 (aCons (gBin dAdd (gC (.int 1)) (gCB m__law_mix (aCons (gVar 0) (aCons (gBin dAdd (gC (.int 20)) (gVar 4)) (aCons (gC (.int 2)) aNil))))) aNil)) (gtName 6) (gSeq (gAsg (gPure (gBin dSub (gCB m__law_mix (aCons (gVar 0) (aCons (gBin dAdd (gBin dAdd (gC (.int 30)) (gBin dMul (gC (.int 5)) (gVar 4))) (gVar 6)) (aCons (gBin dAdd (gVar 1) (gC (.int 3))) aNil)))) (gC (.int 1)))) (gtName 7)) (gSeq (gAsg (gPure (gBin dIx (eLst (aCons (gVar 7) (aCons (gBin dSub (gCB m__law_mix (aCons (gVar 0) (aCons (gBin dAdd (gBin dAdd (gC (.int 31)) (gBin dMul (gC (.int 5)) (gVar 4))) (gVar 6)) (aCons (gBin dAdd (gVar 1) (gC (.int 3))) aNil)))) (gC (.int 1))) aNil))) (gCB m__law_mix (aCons (gVar 0) (aCons (gBin dAdd (gBin dAdd (gC (.int 32)) (gBin dMul (gC (.int 5)) (gVar 4))) (gVar 6)) (aCons (gC (.int 2)) aNil)))))) (gtName 8)) (gSeq (gAsg (gPure (eLst (aCons (gC (.int 3)) (aCons (gBin dSub (gUn dNeg (gC (.int 1))) (gCB m__law_mix (aCons (gVar 0) (aCons (gBin dAdd (gC (.int 33)) (gVar 4)) (aCons (gC (.int 9)) aNil))))) (aCons (gBin dAdd (gC (.int 1048577)) (gCB m__law_mix (aCons (gVar 0) (aCons (gBin dAdd (gC (.int 33)) (gVar 4)) (aCons (gC (.int 9)) aNil))))) (aCons (gC (.int 1048576)) aNil)))))) (gtName 9)) (gSeq (gAsg (gPure (eTup (aCons (gVar 7) (aCons (gVar 8) (aCons (gBin dIx (gVar 9) (gCB m__law_mix (aCons (gVar 0) (aCons (gBin dAdd (gBin dAdd (gC (.int 34)) (gBin dMul (gC (.int 5)) (gVar 4))) (gVar 6)) (aCons (gC (.int 4)) aNil))))) aNil))))) (gtName 10)) (gSeq (gAsg (gPure (gCB m__law_mix (aCons (gVar 0) (aCons (gBin dAdd (gBin dAdd (gC (.int 35)) (gBin dMul (gC (.int 5)) (gVar 4))) (gVar 6)) (aCons (gBin dAdd (gCB dLen (aCons (gVar 5) aNil)) (gC (.int 1))) aNil))))) (gtName 11)) (gAsg (gPure (gBin dAdd (gBin dAdd (gSl (gVar 5) gNoPart (gPart (gVar 11))) (eLst (aCons (gVar 10) aNil))) (gSl (gVar 5) (gPart (gVar 11)) gNoPart))) (gtName 5)))))))) (gDrop (gApp 3 (gPure (eTup (aCons (gVar 1) (aCons (gVar 5) aNil))))))))) (gRet (gMove 3))))
def m__law_bad_ones : List DV → Rs DV := runB b__law_bad_ones 12
abbrev N_law : List Str := ["_law_script", "_law_draws_here", "_law_wide", "_law_top", "_law_size", "_law_edges", "_law_kept", "_law_network_here", "_law_row", "_law_before", "_law_wrong", "_law_way", "_law_turn", "_law_k", "_law_price", "_law_other", "_law_due_here"]
def b_law : GS := (gSeq (gAsg (gPure (gCB m__law_draws (aCons (gVar 0) aNil))) (gtName 1)) (gSeq (gAsg (gPure (gBin dEq (gCB m__law_mix (aCons (gVar 1) (aCons (gC (.int 10)) (aCons (gC (.int 5)) aNil)))) (gC (.int 1)))) (gtName 2)) (gSeq (gAsg (gPure (gBin dIx (eLst (aCons (gC (.int 3)) (aCons (gC (.int 60)) (aCons (gC (.int 1048577)) aNil)))) (gCB m__law_mix (aCons (gVar 1) (aCons (gC (.int 0)) (aCons (gC (.int 3)) aNil)))))) (gtName 3)) (gSeq (gAsg (gPure (gCB m__law_network (aCons (gVar 1) (aCons (gC (.int 40)) (aCons (gBin dIx (eLst (aCons (gC (.int 12)) (aCons (gC (.int 40)) aNil))) (gCB dInt (aCons (gVar 2) aNil))) (aCons (gBin dIx (eLst (aCons (gC (.int 14)) (aCons (gC (.int 200)) aNil))) (gCB dInt (aCons (gVar 2) aNil))) (aCons (gVar 3) aNil))))))) (gtUp 4 5)) (gSeq (gAsg (gPure (gCB dList (aCons (gVar 5) aNil))) (gtName 6)) (gSeq (gAsg (gPure (gCB m_Network___init__ (aCons (gVar 4) (aCons (gVar 5) aNil)))) (gtName 7)) (gSeq (gDrop (gApp 5 (gPure (eTup (aCons (gC (.int 0)) (aCons (gC (.int 0)) (aCons (gC (.int 0)) aNil))))))) (gSeq (gDrop (gAppT (gMeth "Network" "edges" m_Network_edges (gVar 7) aNil) (eTup (aCons (gC (.int 0)) (aCons (gC (.int 0)) (aCons (gC (.int 0)) aNil)))))) (gSeq (gDrop (gAppT (gMeth "Network" "around" m_Network_around (gVar 7) (aCons (gC (.int 0)) aNil)) (gC (.int 5)))) (gSeq (gIfS (gNot (gB (gCB m__law_alike (aCons (gVar 7) (aCons (gVar 4) (aCons (gVar 6) aNil)))))) (gRet (gPure (gC (.bl false)))) gNext) (gSeq (gFor (gSeqI (gCB m__law_bad_ones (aCons (gVar 1) (aCons (gVar 4) (aCons (gVar 6) aNil))))) (gtName 8) (gSeq (gAsg (gPure (gCB dRepr (aCons (gVar 8) aNil))) (gtName 9)) (gIfS (gOr (gB (gBin dNe (gCB m__law_made (aCons (gBin dIx (gVar 8) (gC (.int 0))) (aCons (gBin dIx (gVar 8) (gC (.int 1))) aNil))) (gCB m__law_due (aCons (gBin dIx (gVar 8) (gC (.int 0))) (aCons (gBin dIx (gVar 8) (gC (.int 1))) aNil))))) (gB (gBin dNe (gCB dRepr (aCons (gVar 8) aNil)) (gVar 9)))) (gRet (gPure (gC (.bl false)))) gNext))) (gSeq (gFor (gSeqI (eLst (aCons (gBin dSub (gUn dNeg (gC (.int 1))) (gCB m__law_mix (aCons (gVar 1) (aCons (gC (.int 1)) (aCons (gC (.int 9)) aNil))))) (aCons (gBin dAdd (gVar 4) (gCB m__law_mix (aCons (gVar 1) (aCons (gC (.int 1)) (aCons (gC (.int 9)) aNil))))) aNil)))) (gtName 10) (gFor (gRng1 (aCons (gC (.int 3)) aNil)) (gtName 11) (gIfS (gB (gBin dNe (gCB m__law_refused (aCons (gVar 11) (aCons (gVar 7) (aCons (gVar 10) (aCons (gC (.int 0)) aNil))))) (eTup (aCons (eLst (aCons (gC (.bl true)) (aCons (gC (.bl false)) (aCons (gC (.bl false)) aNil)))) (aCons (gVar 10) aNil))))) (gRet (gPure (gC (.bl false)))) gNext))) (gSeq (gFor (gSeqI (eLst (aCons (gBin dSub (gUn dNeg (gC (.int 1))) (gCB m__law_mix (aCons (gVar 1) (aCons (gC (.int 2)) (aCons (gC (.int 9)) aNil))))) (aCons (gBin dAdd (gCB dLen (aCons (gVar 6) aNil)) (gCB m__law_mix (aCons (gVar 1) (aCons (gC (.int 2)) (aCons (gC (.int 9)) aNil))))) aNil)))) (gtName 10) (gIfS (gB (gBin dNe (gCB m__law_refused (aCons (gC (.int 3)) (aCons (gVar 7) (aCons (gVar 10) (aCons (gBin dIx (eLst (aCons (gUn dNeg (gC (.int 1))) (aCons (gC (.int 5)) aNil))) (gCB m__law_mix (aCons (gVar 1) (aCons (gC (.int 3)) (aCons (gC (.int 2)) aNil))))) aNil))))) (eTup (aCons (eLst (aCons (gC (.bl false)) (aCons (gC (.bl true)) (aCons (gC (.bl false)) aNil)))) (aCons (gVar 10) aNil))))) (gRet (gPure (gC (.bl false)))) gNext)) (gSeq (gFor (gRng1 (aCons (gCB dMin2 (aCons (gC (.int 2)) (aCons (gCB dLen (aCons (gVar 6) aNil)) aNil))) aNil)) (gtName 12) (gSeq (gAsg (gPure (gCB m__law_mix (aCons (gVar 1) (aCons (gBin dAdd (gC (.int 4)) (gVar 12)) (aCons (gCB dLen (aCons (gVar 6) aNil)) aNil))))) (gtName 13)) (gSeq (gFor (gSeqI (eLst (aCons (gBin dSub (gUn dNeg (gC (.int 1))) (gCB m__law_mix (aCons (gVar 1) (aCons (gC (.int 2)) (aCons (gC (.int 9)) aNil))))) (aCons (gBin dAdd (gC (.int 1048577)) (gCB m__law_mix (aCons (gVar 1) (aCons (gC (.int 2)) (aCons (gC (.int 9)) aNil))))) aNil)))) (gtName 10) (gIfS (gB (gBin dNe (gCB m__law_refused (aCons (gC (.int 3)) (aCons (gVar 7) (aCons (gVar 13) (aCons (gVar 10) aNil))))) (eTup (aCons (eLst (aCons (gC (.bl false)) (aCons (gC (.bl false)) (aCons (gC (.bl true)) aNil)))) (aCons (gVar 13) aNil))))) (gRet (gPure (gC (.bl false)))) gNext)) (gSeq (gAsg (gPure (gBin dIx (eLst (aCons (gC (.int 0)) (aCons (gC (.int 1048576)) (aCons (gCB m__law_mix (aCons (gVar 1) (aCons (gBin dAdd (gC (.int 6)) (gVar 12)) (aCons (gC (.int 3000)) aNil)))) aNil)))) (gCB m__law_mix (aCons (gVar 1) (aCons (gC (.int 8)) (aCons (gC (.int 3)) aNil)))))) (gtName 14)) (gSeq (gAsg (gPure (gMeth "Network" "with_price" m_Network_with_price (gVar 7) (aCons (gVar 13) (aCons (gVar 14) aNil)))) (gtName 15)) (gSeq (gAsg (gPure (gBin dAdd (gBin dAdd (gSl (gVar 6) gNoPart (gPart (gVar 13))) (eLst (aCons (eTup (aCons (gBin dIx (gBin dIx (gVar 6) (gVar 13)) (gC (.int 0))) (aCons (gBin dIx (gBin dIx (gVar 6) (gVar 13)) (gC (.int 1))) (aCons (gVar 14) aNil)))) aNil))) (gSl (gVar 6) (gPart (gBin dAdd (gVar 13) (gC (.int 1)))) gNoPart))) (gtName 16)) (gIfS (gNot (gB (gCB m__law_alike (aCons (gVar 15) (aCons (gVar 4) (aCons (gVar 16) aNil)))))) (gRet (gPure (gC (.bl false)))) gNext))))))) (gRet (gPure (gCB m__law_alike (aCons (gVar 7) (aCons (gVar 4) (aCons (gVar 6) aNil))))))))))))))))))))
def m_law : List DV → Rs DV := runB b_law 17
end M
end

/-! text N1 -/
section
set_option maxRecDepth 100000
set_option maxHeartbeats 4000000
namespace M
open PySem DL
def Ds (ds : List Int) : Prop := ds.length ≤ 4000 ∧ ∀ z ∈ ds, 0 ≤ z ∧ z < 65536
theorem mulR {a b : Int} (h : b.natAbs < 2 ^ 64) : mulOk a b = true := by
  unfold mulOk
  rw [decide_eq_true h, Bool.true_or, Bool.or_true]
theorem dIx_mod {ds : List Int} {k : Int} (h : 0 < ds.length) : ∃ y ∈ ds, dIx (di ds) (.int (k % (ds.length : Int))) = .ok (.int y) := by
  have h1 : 0 ≤ k % (ds.length : Int) := Int.emod_nonneg _ (by omega)
  have h2 : k % (ds.length : Int) < (ds.length : Int) := Int.emod_lt_of_pos _ (by omega)
  exact ⟨_, List.getElem_mem (by omega), dIx_g (g := DV.int) (k % (ds.length : Int)).toNat (by omega) (by omega)⟩
theorem lenI_e {ρ : EnvD} {i : Nat} {xs : List Int} (h : lk ρ i = .ok (di xs)) : gCB dLen (aCons (gVar i) aNil) ρ = .ok (.int xs.length) := len_e (g := DV.int) (xs := xs) h
theorem mix_ok {ds : List Int} (hd : Ds ds) {k m : Int} (hk : 0 ≤ k) (hm : 0 < m) : ∃ v : Int, 0 ≤ v ∧ v < m ∧ m__law_mix [di ds, .int k, .int m] = .ok (.int v) := by
  have st : startD 4 [di ds, .int k, .int m] = [some (di ds), some (.int k), some (.int m), none] := rfl
  have s1 : (gAsg (gPure (gC (.int 0))) (gtName 3)) [some (di ds), some (.int k), some (.int m), none] = .nx [some (di ds), some (.int k), some (.int m), some (.int 0)] := rfl
  obtain ⟨y, y0, y1, s2⟩ : ∃ y : Int, 0 ≤ y ∧ y < 65536 ∧ (gIfS (gB (gBin dGt (gCB dLen (aCons (gVar 0) aNil)) (gC (.int 0)))) (gAsg (gPure (gBin dIx (gVar 0) (gBin dMod (gCB dInt (aCons (gVar 1) aNil)) (gCB dLen (aCons (gVar 0) aNil))))) (gtName 3)) gNext) [some (di ds), some (.int k), some (.int m), some (.int 0)] = .nx [some (di ds), some (.int k), some (.int m), some (.int y)] := by
    have t : (gB (gBin dGt (gCB dLen (aCons (gVar 0) aNil)) (gC (.int 0)))) [some (di ds), some (.int k), some (.int m), some (.int 0)] = .ok (decide (0 < (ds.length : Int))) := b_e ((bin_e (lenI_e rfl) rfl).trans dGt_i)
    by_cases c : 0 < ds.length
    · obtain ⟨y, ym, ye⟩ := dIx_mod (ds := ds) (k := k) c
      obtain ⟨z0, z1⟩ := hd.2 y ym
      refine ⟨y, z0, z1, ?_⟩
      rw [ev_ifS t, if_pos (decide_eq_true (by omega))]
      exact set_e (i := 3) ((bin_e rfl ((bin_e ((cb1 rfl).trans dInt_i) (lenI_e rfl)).trans (md (by omega)))).trans ye)
    · refine ⟨0, by decide, by decide, ?_⟩
      rw [ev_ifS t, if_neg (by rw [decide_eq_false (by omega)]; decide)]
      rfl
  have t3 : (gB (gBin dLt (gVar 1) (gCB dLen (aCons (gVar 0) aNil)))) [some (di ds), some (.int k), some (.int m), some (.int y)] = .ok (decide (k < (ds.length : Int))) := b_e ((bin_e rfl (lenI_e rfl)).trans dLt_i)
  unfold m__law_mix runB b__law_mix
  rw [st, ev_seq s1, ev_seq s2]
  by_cases c : k < (ds.length : Int)
  · refine ⟨y % m, Int.emod_nonneg _ (by omega), Int.emod_lt_of_pos _ hm, ?_⟩
    rw [ev_seqR (d := .int (y % m)) (ρ' := [some (di ds), some (.int k), some (.int m), some (.int y)]) (by rw [ev_ifS t3, if_pos (decide_eq_true c)]; exact ret_e ((bin_e ((cb1 rfl).trans dInt_i) rfl).trans (md hm)))]
    rfl
  · refine ⟨(y * 7919 + k * 104729) / 3 % m, Int.emod_nonneg _ (by omega), Int.emod_lt_of_pos _ hm, ?_⟩
    have q : (gBin dMod (gCB dInt (aCons (gBin dDiv (gCB dInt (aCons (gBin dAdd (gBin dMul (gVar 3) (gC (.int 7919))) (gBin dMul (gVar 1) (gC (.int 104729)))) aNil)) (gC (.int 3))) aNil)) (gVar 2)) [some (di ds), some (.int k), some (.int m), some (.int y)] = .ok (.int ((y * 7919 + k * 104729) / 3 % m)) := by
      refine (bin_e ((cb1 ((bin_e ((cb1 ((bin_e ((bin_e rfl rfl).trans (dMul_i (mulR (by decide)))) ((bin_e rfl rfl).trans (dMul_i (mulR (by decide))))).trans dAdd_i)).trans dInt_i) rfl).trans (dDiv_i (by decide) (by decide)))).trans dInt_i) rfl).trans (md hm)
    rw [ev_skip (by rw [t3, decide_eq_false c]), ret_e q]
    rfl
theorem app_b {xs : List Int} {x : Int} {i : Nat} {ρ : EnvD} {ge : GE} (h1 : lk ρ i = .ok (di xs)) (h2 : ge ρ = .ok (.int x)) (h : xs.length ≤ 100000) : gDrop (gApp i (gPure ge)) ρ = .nx (ρ.set i (some (di (xs ++ [x])))) := by
  unfold gDrop gApp
  rw [h1]
  dsimp only
  rw [ev_pure, h2]
  dsimp only [Rs.bind]
  rw [h1]
  dsimp only
  rw [if_pos (by rw [List.length_map, sz_eq]; omega)]
  unfold di
  rw [List.map_append]
  rfl
def iB : GS := (gIfS (gB (gBin dGt (gVar 3) (gC (.int 0)))) (gSeq (gDrop (gApp 1 (gPure (gBin dMod (gCB dInt (aCons (gVar 3) aNil)) (gC (.int 65536)))))) (gAsg (gPure (gBin dDiv (gVar 3) (gC (.int 65536)))) (gtName 3))) gNext)
def II (S T2 T5 : Option DV) (n0 : Nat) (j : Nat) (ρ : EnvD) : Prop := ∃ (out : List Int) (r : Int) (t4 : Option DV), ρ = [S, some (di out), T2, some (.int r), t4, T5] ∧ 0 ≤ r ∧ out.length ≤ n0 + j ∧ ∀ z ∈ out, 0 ≤ z ∧ z < 65536
theorem i_turn {S T2 T5 : Option DV} {n0 j : Nat} {ρ : EnvD} (hn : n0 ≤ 4000) (hj : j < 60) (h : II S T2 T5 n0 j ρ) : ∃ ρ1 ρ2, gtName 4 (.int ((0 : Int) + (j : Int))) ρ = .ok ρ1 ∧ iB ρ1 = .nx ρ2 ∧ II S T2 T5 n0 (j + 1) ρ2 := by
  obtain ⟨out, r, t4, rfl, h0, h1, h2⟩ := h
  refine ⟨[S, some (di out), T2, some (.int r), some (.int ((0 : Int) + (j : Int))), T5], ?_⟩
  have t : (gB (gBin dGt (gVar 3) (gC (.int 0)))) [S, some (di out), T2, some (.int r), some (.int ((0 : Int) + (j : Int))), T5] = .ok (decide (0 < r)) := b_e ((bin_e rfl rfl).trans dGt_i)
  by_cases c : 0 < r
  · have s1 : (gDrop (gApp 1 (gPure (gBin dMod (gCB dInt (aCons (gVar 3) aNil)) (gC (.int 65536)))))) [S, some (di out), T2, some (.int r), some (.int ((0 : Int) + (j : Int))), T5] = .nx [S, some (di (out ++ [r % 65536])), T2, some (.int r), some (.int ((0 : Int) + (j : Int))), T5] := app_b rfl ((bin_e ((cb1 rfl).trans dInt_i) rfl).trans (md (by decide))) (by omega)
    have s2 : (gAsg (gPure (gBin dDiv (gVar 3) (gC (.int 65536)))) (gtName 3)) [S, some (di (out ++ [r % 65536])), T2, some (.int r), some (.int ((0 : Int) + (j : Int))), T5] = .nx [S, some (di (out ++ [r % 65536])), T2, some (.int (r / 65536)), some (.int ((0 : Int) + (j : Int))), T5] := set_e (i := 3) ((bin_e rfl rfl).trans (dDiv_i (by decide) (by decide)))
    refine ⟨_, rfl, ?_, out ++ [r % 65536], r / 65536, some (.int ((0 : Int) + (j : Int))), rfl, by omega, by rw [List.length_append]; show out.length + 1 ≤ _; omega, fun z hz => ?_⟩
    · unfold iB
      rw [ev_ifS t, if_pos (decide_eq_true c), ev_seq s1, s2]
    · rcases List.mem_append.mp hz with z1 | z1
      · exact h2 z z1
      · rw [List.mem_singleton.mp z1]
        omega
  · refine ⟨_, rfl, ?_, out, r, some (.int ((0 : Int) + (j : Int))), rfl, h0, by omega, h2⟩
    unfold iB
    rw [ev_ifS t, if_neg (by rw [decide_eq_false c]; decide)]
    rfl
def dB : GS := (gSeq (gAsg (gPure (gCB dAbs (aCons (gBin dIx (gVar 0) (gVar 2)) aNil))) (gtName 3)) (gIfS (gB (gBin dGe (gVar 3) (gBin dPow (gC (.int 10)) (gC (.int 18))))) (gFor (gRng1 (aCons (gC (.int 60)) aNil)) (gtName 4) (gIfS (gB (gBin dGt (gVar 3) (gC (.int 0)))) (gSeq (gDrop (gApp 1 (gPure (gBin dMod (gCB dInt (aCons (gVar 3) aNil)) (gC (.int 65536)))))) (gAsg (gPure (gBin dDiv (gVar 3) (gC (.int 65536)))) (gtName 3))) gNext)) (gSeq (gAsg (gPure (gBin dMod (gCB dInt (aCons (gBin dAdd (gBin dMul (gVar 3) (gC (.int 48271))) (gBin dMul (gBin dAdd (gVar 2) (gC (.int 1))) (gC (.int 69621)))) aNil)) (gC (.int 2147483647)))) (gtName 5)) (gSeq (gAsg (gPure (gBin dMod (gCB dInt (aCons (gBin dAdd (gBin dAdd (gBin dMul (gVar 5) (gC (.int 16807))) (gBin dMul (gC (.int 11)) (gVar 2))) (gC (.int 5))) aNil)) (gC (.int 2147483629)))) (gtName 5)) (gSeq (gDrop (gApp 1 (gPure (gBin dMod (gCB dInt (aCons (gVar 5) aNil)) (gC (.int 65536)))))) (gDrop (gApp 1 (gPure (gBin dMod (gCB dInt (aCons (gBin dDiv (gVar 5) (gC (.int 65536))) aNil)) (gC (.int 32768)))))))))))
def DI (ns : List Int) (i : Nat) (ρ : EnvD) : Prop := ∃ (out : List Int) (t2 t3 t4 t5 : Option DV), ρ = [some (di ns), some (di out), t2, t3, t4, t5] ∧ out.length ≤ 60 * i ∧ ∀ z ∈ out, 0 ≤ z ∧ z < 65536
theorem d_turn {ns : List Int} {i : Nat} {ρ : EnvD} (hi : i < ns.length) (h63 : i < 63) (h : DI ns i ρ) : ∃ ρ1 ρ2, gtName 2 (.int ((0 : Int) + (i : Int))) ρ = .ok ρ1 ∧ dB ρ1 = .nx ρ2 ∧ DI ns (i + 1) ρ2 := by
  obtain ⟨out, t2, t3, t4, t5, rfl, h1, h2⟩ := h
  refine ⟨[some (di ns), some (di out), some (.int ((0 : Int) + (i : Int))), t3, t4, t5], ?_⟩
  have g : dIx (di ns) (.int ((0 : Int) + (i : Int))) = .ok (.int ns[i]) := dIx_g (g := DV.int) i (by omega) hi
  generalize ns[i] = c at g
  obtain ⟨r, hr, s1⟩ : ∃ r : Int, 0 ≤ r ∧ (gAsg (gPure (gCB dAbs (aCons (gBin dIx (gVar 0) (gVar 2)) aNil))) (gtName 3)) [some (di ns), some (di out), some (.int ((0 : Int) + (i : Int))), t3, t4, t5] = .nx [some (di ns), some (di out), some (.int ((0 : Int) + (i : Int))), some (.int r), t4, t5] := ⟨if c < 0 then -c else c, by omega, set_e (i := 3) ((cb1 ((bin_e rfl rfl).trans g)).trans rfl)⟩
  have t : (gB (gBin dGe (gVar 3) (gBin dPow (gC (.int 10)) (gC (.int 18))))) [some (di ns), some (di out), some (.int ((0 : Int) + (i : Int))), some (.int r), t4, t5] = .ok (decide ((10 : Int) ^ 18 ≤ r)) := b_e ((bin_e rfl ((bin_e rfl rfl).trans (rfl : dPow (.int 10) (.int 18) = .ok (.int ((10 : Int) ^ 18))))).trans dGe_i)
  by_cases c : (10 : Int) ^ 18 ≤ r
  · obtain ⟨ρ', f1, out2, r2, u4, e1, _, h3, h4⟩ := forG_rngB (tg := gtName 4) (b := iB) 60 (II (some (di ns)) (some (.int ((0 : Int) + (i : Int)))) t5 out.length) (fun j ρ hj hρ => i_turn (by omega) hj hρ) 60 0 [some (di ns), some (di out), some (.int ((0 : Int) + (i : Int))), some (.int r), t4, t5] (by omega) ⟨out, r, t4, rfl, hr, by omega, h2⟩
    have s2 : gFor (gRng1 (aCons (gC (.int 60)) aNil)) (gtName 4) iB [some (di ns), some (di out), some (.int ((0 : Int) + (i : Int))), some (.int r), t4, t5] = .nx ρ' := ev_for (rng1_e (i := 60) (n := 60) rfl rfl (by omega)) (by rw [rngD_eq]; exact f1)
    refine ⟨ρ', rfl, ?_, out2, some (.int ((0 : Int) + (i : Int))), some (.int r2), u4, t5, e1, by omega, h4⟩
    unfold dB
    rw [ev_seq s1, ev_ifS t, if_pos (decide_eq_true c)]
    exact s2
  · obtain ⟨y, y1, s2⟩ : ∃ y : Int, 0 ≤ y ∧ (gAsg (gPure (gBin dMod (gCB dInt (aCons (gBin dAdd (gBin dMul (gVar 3) (gC (.int 48271))) (gBin dMul (gBin dAdd (gVar 2) (gC (.int 1))) (gC (.int 69621)))) aNil)) (gC (.int 2147483647)))) (gtName 5)) [some (di ns), some (di out), some (.int ((0 : Int) + (i : Int))), some (.int r), t4, t5] = .nx [some (di ns), some (di out), some (.int ((0 : Int) + (i : Int))), some (.int r), t4, some (.int y)] := ⟨_, Int.emod_nonneg _ (by decide), set_e (i := 5) ((bin_e ((cb1 ((bin_e ((bin_e rfl rfl).trans (dMul_i (mulR (by decide)))) ((bin_e ((bin_e rfl rfl).trans dAdd_i) rfl).trans (dMul_i (mulR (by decide))))).trans dAdd_i)).trans dInt_i) rfl).trans (md (by decide)))⟩
    obtain ⟨z, z1, s3⟩ : ∃ z : Int, 0 ≤ z ∧ (gAsg (gPure (gBin dMod (gCB dInt (aCons (gBin dAdd (gBin dAdd (gBin dMul (gVar 5) (gC (.int 16807))) (gBin dMul (gC (.int 11)) (gVar 2))) (gC (.int 5))) aNil)) (gC (.int 2147483629)))) (gtName 5)) [some (di ns), some (di out), some (.int ((0 : Int) + (i : Int))), some (.int r), t4, some (.int y)] = .nx [some (di ns), some (di out), some (.int ((0 : Int) + (i : Int))), some (.int r), t4, some (.int z)] := ⟨_, Int.emod_nonneg _ (by decide), set_e (i := 5) ((bin_e ((cb1 ((bin_e ((bin_e ((bin_e rfl rfl).trans (dMul_i (mulR (by decide)))) ((bin_e rfl rfl).trans (dMul_i (mulT (by decide))))).trans dAdd_i) rfl).trans dAdd_i)).trans dInt_i) rfl).trans (md (by decide)))⟩
    have s4 : (gDrop (gApp 1 (gPure (gBin dMod (gCB dInt (aCons (gVar 5) aNil)) (gC (.int 65536)))))) [some (di ns), some (di out), some (.int ((0 : Int) + (i : Int))), some (.int r), t4, some (.int z)] = .nx [some (di ns), some (di (out ++ [z % 65536])), some (.int ((0 : Int) + (i : Int))), some (.int r), t4, some (.int z)] := app_b rfl ((bin_e ((cb1 rfl).trans dInt_i) rfl).trans (md (by decide))) (by omega)
    have s5 : (gDrop (gApp 1 (gPure (gBin dMod (gCB dInt (aCons (gBin dDiv (gVar 5) (gC (.int 65536))) aNil)) (gC (.int 32768)))))) [some (di ns), some (di (out ++ [z % 65536])), some (.int ((0 : Int) + (i : Int))), some (.int r), t4, some (.int z)] = .nx [some (di ns), some (di (out ++ [z % 65536] ++ [z / 65536 % 32768])), some (.int ((0 : Int) + (i : Int))), some (.int r), t4, some (.int z)] := app_b rfl ((bin_e ((cb1 ((bin_e rfl rfl).trans (dDiv_i (by decide) (by decide)))).trans dInt_i) rfl).trans (md (by decide))) (by rw [List.length_append]; show out.length + 1 ≤ _; omega)
    refine ⟨_, rfl, ?_, out ++ [z % 65536] ++ [z / 65536 % 32768], some (.int ((0 : Int) + (i : Int))), some (.int r), t4, some (.int z), rfl, ?_, fun w hw => ?_⟩
    · unfold dB
      rw [ev_seq s1, ev_ifS t, if_neg (by rw [decide_eq_false c]; decide), ev_seq s2, ev_seq s3, ev_seq s4, s5]
    · rw [List.length_append, List.length_append]
      show out.length + 1 + 1 ≤ _
      omega
    · rcases List.mem_append.mp hw with hw | hw
      · rcases List.mem_append.mp hw with hw | hw
        · exact h2 w hw
        · rw [List.mem_singleton.mp hw]
          omega
      · rw [List.mem_singleton.mp hw]
        omega
theorem draws_ok {ns : List Int} (hl : ns.length ≤ 63) : ∃ ds : List Int, m__law_draws [di ns] = .ok (di ds) ∧ Ds ds := by
  have st : startD 6 [di ns] = [some (di ns), none, none, none, none, none] := rfl
  have s1 : (gAsg (gPure (eLst aNil)) (gtName 1)) [some (di ns), none, none, none, none, none] = .nx [some (di ns), some (di []), none, none, none, none] := rfl
  obtain ⟨ρ', f1, out, t2, t3, t4, t5, e1, h1, h2⟩ := forG_rngB (tg := gtName 2) (b := dB) ns.length (DI ns) (fun i ρ hi h => d_turn hi (by omega) h) ns.length 0 [some (di ns), some (di []), none, none, none, none] (by omega) ⟨[], none, none, none, none, rfl, by simp, fun z hz => by cases hz⟩
  have mn : gCB dMin2 (aCons (gC (.int 63)) (aCons (gCB dLen (aCons (gVar 0) aNil)) aNil)) [some (di ns), some (di []), none, none, none, none] = .ok (.int (ns.length : Int)) := by
    rw [cb2 rfl (lenI_e rfl)]
    show Rs.ok (DV.int (if (ns.length : Int) < 63 then (ns.length : Int) else 63)) = _
    congr 2
    omega
  have s2 : gFor (gRng1 (aCons (gCB dMin2 (aCons (gC (.int 63)) (aCons (gCB dLen (aCons (gVar 0) aNil)) aNil))) aNil)) (gtName 2) dB [some (di ns), some (di []), none, none, none, none] = .nx ρ' := ev_for (rng1_e mn rfl (by omega)) (by rw [rngD_eq]; exact f1)
  refine ⟨out, ?_, by omega, h2⟩
  unfold m__law_draws runB b__law_draws
  rw [st, ev_seq s1]
  show finB (gSeq (gFor _ _ dB) _ _) = _
  rw [ev_seq s2, e1]
  rfl
end M
end

/-! text N2 -/
section
set_option maxRecDepth 100000
set_option maxHeartbeats 4000000
namespace M
open PySem DL
abbrev Ed := Int × Int × Int
abbrev eD (e : Ed) : DV := .tup [.int e.1, .int e.2.1, .int e.2.2]
abbrev esD (es : List Ed) : DV := .lst (es.map eD)
/-- a good edge among so many vertices -/
def Ge (s : Int) (e : Ed) : Prop := 0 ≤ e.1 ∧ e.1 < s ∧ 0 ≤ e.2.1 ∧ e.2.1 < s ∧ e.1 ≠ e.2.1 ∧ 0 ≤ e.2.2 ∧ e.2.2 ≤ 1048576
theorem mod_two {x s : Int} (h0 : 0 ≤ x) (h1 : x < 2 * s) : x % s = x ∨ x % s = x - s := by
  by_cases c : x < s
  · exact .inl (Int.emod_eq_of_lt h0 c)
  · right
    rw [← Int.emod_eq_of_lt (a := x - s) (b := s) (by omega) (by omega), Int.sub_emod_right]
def nB : GS := (gSeq (gAsg (gPure (gCB m__law_mix (aCons (gVar 0) (aCons (gBin dAdd (gBin dAdd (gVar 1) (gC (.int 3))) (gBin dMul (gC (.int 3)) (gVar 7))) (aCons (gVar 5) aNil))))) (gtName 8)) (gSeq (gAsg (gPure (gBin dMod (gCB dInt (aCons (gBin dAdd (gBin dAdd (gVar 8) (gC (.int 1))) (gCB m__law_mix (aCons (gVar 0) (aCons (gBin dAdd (gBin dAdd (gVar 1) (gC (.int 4))) (gBin dMul (gC (.int 3)) (gVar 7))) (aCons (gBin dSub (gVar 5) (gC (.int 1))) aNil))))) aNil)) (gVar 5))) (gtName 9)) (gDrop (gApp 6 (gPure (eTup (aCons (gVar 8) (aCons (gVar 9) (aCons (gCB m__law_mix (aCons (gVar 0) (aCons (gBin dAdd (gBin dAdd (gVar 1) (gC (.int 5))) (gBin dMul (gC (.int 3)) (gVar 7))) (aCons (gVar 4) aNil)))) aNil)))))))))
section
variable {ds : List Int} {k sz mn tp s : Int} {es : List Ed} {i : Nat} {t7 t8 t9 : Option DV}
def NI (ds : List Int) (k sz mn tp s : Int) (i : Nat) (ρ : EnvD) : Prop := ∃ (es : List Ed) (t7 t8 t9 : Option DV), ρ = [some (di ds), some (.int k), some (.int sz), some (.int mn), some (.int tp), some (.int s), some (esD es), t7, t8, t9] ∧ es.length = i ∧ ∀ e ∈ es, Ge s e
theorem n_turn {ρ : EnvD} (hd : Ds ds) (hk : 0 ≤ k) (hs : 1 < s) (ht : 0 < tp) (ht2 : tp ≤ 1048577) (hi : i < 1000) (h : NI ds k sz mn tp s i ρ) : ∃ ρ1 ρ2, gtName 7 (.int ((0 : Int) + (i : Int))) ρ = .ok ρ1 ∧ nB ρ1 = .nx ρ2 ∧ NI ds k sz mn tp s (i + 1) ρ2 := by
  obtain ⟨es, t7, t8, t9, rfl, h1, h2⟩ := h
  refine ⟨[some (di ds), some (.int k), some (.int sz), some (.int mn), some (.int tp), some (.int s), some (esD es), some (.int ((0 : Int) + (i : Int))), t8, t9], ?_⟩
  obtain ⟨u, u0, u1, eu⟩ := mix_ok hd (k := k + 3 + 3 * ((0 : Int) + (i : Int))) (m := s) (by omega) (by omega)
  obtain ⟨m, m0, m1, em⟩ := mix_ok hd (k := k + 4 + 3 * ((0 : Int) + (i : Int))) (m := s - 1) (by omega) (by omega)
  obtain ⟨p, p0, p1, ep⟩ := mix_ok hd (k := k + 5 + 3 * ((0 : Int) + (i : Int))) (m := tp) (by omega) ht
  have ml : ∀ ρ, lk ρ 7 = .ok (.int ((0 : Int) + (i : Int))) → gBin dMul (gC (.int 3)) (gVar 7) ρ = .ok (.int (3 * ((0 : Int) + (i : Int)))) := fun ρ h => (bin_e rfl h).trans (dMul_i (mulT (by decide)))
  have s1 : (gAsg (gPure (gCB m__law_mix (aCons (gVar 0) (aCons (gBin dAdd (gBin dAdd (gVar 1) (gC (.int 3))) (gBin dMul (gC (.int 3)) (gVar 7))) (aCons (gVar 5) aNil))))) (gtName 8)) [some (di ds), some (.int k), some (.int sz), some (.int mn), some (.int tp), some (.int s), some (esD es), some (.int ((0 : Int) + (i : Int))), t8, t9] = .nx [some (di ds), some (.int k), some (.int sz), some (.int mn), some (.int tp), some (.int s), some (esD es), some (.int ((0 : Int) + (i : Int))), some (.int u), t9] := set_e (i := 8) ((cb3 rfl ((bin_e ((bin_e rfl rfl).trans dAdd_i) (ml _ rfl)).trans dAdd_i) rfl).trans eu)
  have s2 : (gAsg (gPure (gBin dMod (gCB dInt (aCons (gBin dAdd (gBin dAdd (gVar 8) (gC (.int 1))) (gCB m__law_mix (aCons (gVar 0) (aCons (gBin dAdd (gBin dAdd (gVar 1) (gC (.int 4))) (gBin dMul (gC (.int 3)) (gVar 7))) (aCons (gBin dSub (gVar 5) (gC (.int 1))) aNil))))) aNil)) (gVar 5))) (gtName 9)) [some (di ds), some (.int k), some (.int sz), some (.int mn), some (.int tp), some (.int s), some (esD es), some (.int ((0 : Int) + (i : Int))), some (.int u), t9] = .nx [some (di ds), some (.int k), some (.int sz), some (.int mn), some (.int tp), some (.int s), some (esD es), some (.int ((0 : Int) + (i : Int))), some (.int u), some (.int ((u + 1 + m) % s))] := set_e (i := 9) ((bin_e ((cb1 ((bin_e ((bin_e rfl rfl).trans dAdd_i) ((cb3 rfl ((bin_e ((bin_e rfl rfl).trans dAdd_i) (ml _ rfl)).trans dAdd_i) ((bin_e rfl rfl).trans dSub_i)).trans em)).trans dAdd_i)).trans dInt_i) rfl).trans (md (by omega)))
  have s3 : (gDrop (gApp 6 (gPure (eTup (aCons (gVar 8) (aCons (gVar 9) (aCons (gCB m__law_mix (aCons (gVar 0) (aCons (gBin dAdd (gBin dAdd (gVar 1) (gC (.int 5))) (gBin dMul (gC (.int 3)) (gVar 7))) (aCons (gVar 4) aNil)))) aNil))))))) [some (di ds), some (.int k), some (.int sz), some (.int mn), some (.int tp), some (.int s), some (esD es), some (.int ((0 : Int) + (i : Int))), some (.int u), some (.int ((u + 1 + m) % s))] = .nx [some (di ds), some (.int k), some (.int sz), some (.int mn), some (.int tp), some (.int s), some (esD (es ++ [(u, (u + 1 + m) % s, p)])), some (.int ((0 : Int) + (i : Int))), some (.int u), some (.int ((u + 1 + m) % s))] := app_g (g := eD) (x := (u, (u + 1 + m) % s, p)) rfl (tup3 rfl rfl ((cb3 rfl ((bin_e ((bin_e rfl rfl).trans dAdd_i) (ml _ rfl)).trans dAdd_i) rfl).trans ep)) (by omega)
  have v0 : 0 ≤ (u + 1 + m) % s := Int.emod_nonneg _ (by omega)
  have v1 : (u + 1 + m) % s < s := Int.emod_lt_of_pos _ (by omega)
  have v2 := mod_two (x := u + 1 + m) (s := s) (by omega) (by omega)
  refine ⟨_, rfl, ?_, es ++ [(u, (u + 1 + m) % s, p)], some (.int ((0 : Int) + (i : Int))), some (.int u), some (.int ((u + 1 + m) % s)), rfl, by rw [List.length_append, h1]; rfl, fun e he => ?_⟩
  · unfold nB
    rw [ev_seq s1, ev_seq s2, s3]
  · rcases List.mem_append.mp he with he | he
    · exact h2 e he
    · rw [List.mem_singleton.mp he]
      exact ⟨u0, u1, v0, v1, by show u ≠ (u + 1 + m) % s; omega, p0, by show p ≤ 1048576; omega⟩
end
theorem network_ok {ds : List Int} {k sz mn tp : Int} (hd : Ds ds) (hk : 0 ≤ k) (hz : 0 < sz) (hm : 0 ≤ mn) (hm2 : mn ≤ 900) (ht : 0 < tp) (ht2 : tp ≤ 1048577) :
    ∃ (s : Int) (es : List Ed), m__law_network [di ds, .int k, .int sz, .int mn, .int tp] = .ok (.tup [.int s, esD es]) ∧ 1 ≤ s ∧ s ≤ sz ∧ (es.length : Int) ≤ mn ∧ ∀ e ∈ es, Ge s e := by
  obtain ⟨v, v0, v1, ev⟩ := mix_ok hd hk hz
  have st : startD 10 [di ds, .int k, .int sz, .int mn, .int tp] = [some (di ds), some (.int k), some (.int sz), some (.int mn), some (.int tp), none, none, none, none, none] := rfl
  have s1 : (gAsg (gPure (gBin dAdd (gC (.int 1)) (gCB m__law_mix (aCons (gVar 0) (aCons (gVar 1) (aCons (gVar 2) aNil)))))) (gtName 5)) [some (di ds), some (.int k), some (.int sz), some (.int mn), some (.int tp), none, none, none, none, none] = .nx [some (di ds), some (.int k), some (.int sz), some (.int mn), some (.int tp), some (.int (1 + v)), none, none, none, none] := set_e (i := 5) ((bin_e rfl ((cb3 rfl rfl rfl).trans ev)).trans dAdd_i)
  have s2 : (gAsg (gPure (eLst aNil)) (gtName 6)) [some (di ds), some (.int k), some (.int sz), some (.int mn), some (.int tp), some (.int (1 + v)), none, none, none, none] = .nx [some (di ds), some (.int k), some (.int sz), some (.int mn), some (.int tp), some (.int (1 + v)), some (esD []), none, none, none] := rfl
  have t : (gB (gBin dGt (gVar 5) (gC (.int 1)))) [some (di ds), some (.int k), some (.int sz), some (.int mn), some (.int tp), some (.int (1 + v)), some (esD []), none, none, none] = .ok (decide (1 < 1 + v)) := b_e ((bin_e rfl rfl).trans dGt_i)
  obtain ⟨es, t7, t8, t9, s3, h1, h2⟩ : ∃ (es : List Ed) (t7 t8 t9 : Option DV), gIfS (gB (gBin dGt (gVar 5) (gC (.int 1)))) (gFor (gRng1 (aCons (gCB m__law_mix (aCons (gVar 0) (aCons (gBin dAdd (gVar 1) (gC (.int 1))) (aCons (gBin dAdd (gVar 3) (gC (.int 1))) aNil)))) aNil)) (gtName 7) nB) gNext [some (di ds), some (.int k), some (.int sz), some (.int mn), some (.int tp), some (.int (1 + v)), some (esD []), none, none, none] = .nx [some (di ds), some (.int k), some (.int sz), some (.int mn), some (.int tp), some (.int (1 + v)), some (esD es), t7, t8, t9] ∧ (es.length : Int) ≤ mn ∧ ∀ e ∈ es, Ge (1 + v) e := by
    by_cases c : 1 < 1 + v
    · obtain ⟨c0, c1, c2, ec⟩ := mix_ok hd (k := k + 1) (m := mn + 1) (by omega) (by omega)
      obtain ⟨ρ', f1, es, t7, t8, t9, e1, h1, h2⟩ := forG_rngB (tg := gtName 7) (b := nB) 1000 (NI ds k sz mn tp (1 + v)) (fun i ρ hi h => n_turn hd hk c ht ht2 hi h) c0.toNat 0 [some (di ds), some (.int k), some (.int sz), some (.int mn), some (.int tp), some (.int (1 + v)), some (esD []), none, none, none] (by omega) ⟨[], none, none, none, rfl, rfl, fun e he => by cases he⟩
      refine ⟨es, t7, t8, t9, ?_, by omega, h2⟩
      rw [ev_ifS t, if_pos (decide_eq_true c), ← e1]
      exact ev_for (rng1_e (i := c0) (n := c0.toNat) ((cb3 rfl ((bin_e rfl rfl).trans dAdd_i) ((bin_e rfl rfl).trans dAdd_i)).trans ec) (by omega) (by omega)) (by rw [rngD_eq]; exact f1)
    · refine ⟨[], none, none, none, ?_, by simpa using hm, fun e he => by cases he⟩
      rw [ev_ifS t, if_neg (by rw [decide_eq_false c]; decide)]
      rfl
  refine ⟨1 + v, es, ?_, by omega, by omega, h1, h2⟩
  unfold m__law_network runB b__law_network
  rw [st, ev_seq s1, ev_seq s2]
  show finB (gSeq (gIfS _ (gFor _ _ nB) gNext) _ _) = _
  rw [ev_seq s3]
  rfl
end M
end

/-! text N3 -/
section
set_option maxRecDepth 100000
set_option maxHeartbeats 4000000
namespace M
open PySem DL
theorem chain_lt {a b c : GE} {ρ : EnvD} {x y z : Int} (h1 : a ρ = .ok (.int x)) (h2 : b ρ = .ok (.int y)) (h3 : c ρ = .ok (.int z)) : gChain dLe dLt a b c ρ = .ok (.bl (decide (x ≤ y) && decide (y < z))) := by
  unfold gChain
  rw [h1]
  dsimp only [Rs.bind]
  rw [h2]
  dsimp only [Rs.bind]
  rw [dLe_i]
  dsimp only [Rs.bind]
  rw [ev_asB]
  cases decide (x ≤ y) with
  | false => rfl
  | true =>
    dsimp only
    rw [if_pos rfl, h3]
    rfl
theorem chain_le {a b c : GE} {ρ : EnvD} {x y z : Int} (h1 : a ρ = .ok (.int x)) (h2 : b ρ = .ok (.int y)) (h3 : c ρ = .ok (.int z)) : gChain dLe dLe a b c ρ = .ok (.bl (decide (x ≤ y) && decide (y ≤ z))) := by
  unfold gChain
  rw [h1]
  dsimp only [Rs.bind]
  rw [h2]
  dsimp only [Rs.bind]
  rw [dLe_i]
  dsimp only [Rs.bind]
  rw [ev_asB]
  cases decide (x ≤ y) with
  | false => rfl
  | true =>
    dsimp only
    rw [if_pos rfl, h3]
    rfl
theorem not_e {t : GT} {ρ : EnvD} {z : Bool} (h : t ρ = .ok z) : gNot t ρ = .ok (!z) := by
  rw [ev_not, h]
theorem raise_i {c : Str} {g : GE} {ρ : EnvD} {i : Int} (h : g ρ = .ok (.int i)) : gRaise c (aCons g aNil) ρ = .ex c (.int i) := by
  unfold gRaise
  rw [ev_cons, h]
  rfl
/-- an if whose way ends -/
theorem ev_stop {t : GT} {f k : GS} {ρ ρ' : EnvD} {d : DV} (h : t ρ = .ok true) (h2 : f ρ = .rt d ρ') : gSeq (gIfS t f gNext) k ρ = .rt d ρ' := ev_seqR (by rw [ev_ifS h, if_pos rfl, h2])
theorem ev_stopE {t : GT} {f k : GS} {ρ : EnvD} {c : Str} {d : DV} (h : t ρ = .ok true) (h2 : f ρ = .ex c d) : gSeq (gIfS t f gNext) k ρ = .ex c d := ev_seqE (by rw [ev_ifS h, if_pos rfl, h2])
def bad1 (s : Int) (e : Ed) : Bool := !(decide (0 ≤ e.1) && decide (e.1 < s)) || (!(decide (0 ≤ e.2.1) && decide (e.2.1 < s)) || decide (e.1 = e.2.1))
def bad2 (e : Ed) : Bool := !(decide (0 ≤ e.2.2) && decide (e.2.2 ≤ 1048576))
def bad (s : Int) (e : Ed) : Option Str := if bad1 s e = true then some "BadVertex" else if bad2 e = true then some "BadPrice" else none
theorem bad1_e {ρ : EnvD} {a b z : GE} {s : Int} {e : Ed} (h1 : a ρ = .ok (.int e.1)) (h2 : b ρ = .ok (.int e.2.1)) (h3 : z ρ = .ok (.int s)) : gOr (gNot (gB (gChain dLe dLt (gC (.int 0)) a z))) (gOr (gNot (gB (gChain dLe dLt (gC (.int 0)) b z))) (gB (gBin dEq a b))) ρ = .ok (bad1 s e) :=
  or_e (not_e (b_e (chain_lt rfl h1 h3))) (or_e (not_e (b_e (chain_lt rfl h2 h3))) (b_e ((bin_e h1 h2).trans dEq_i)))
theorem bad2_e {ρ : EnvD} {a : GE} {e : Ed} (h1 : a ρ = .ok (.int e.2.2)) : gNot (gB (gChain dLe dLe (gC (.int 0)) a (gC (.int 1048576)))) ρ = .ok (bad2 e) := not_e (b_e (chain_le rfl h1 rfl))
theorem check_ok {s k : Int} {e : Ed} : m_check_edge [.int s, eD e, .int k] = (match bad s e with | none => .ok .non | some c => .ex c (.int k)) := by
  have st : startD 6 [.int s, eD e, .int k] = [some (.int s), some (eD e), some (.int k), none, none, none] := rfl
  have s1 : (gAsg (gPure (gVar 1)) (gtTup [3, 4, 5])) [some (.int s), some (eD e), some (.int k), none, none, none] = .nx [some (.int s), some (eD e), some (.int k), some (.int e.1), some (.int e.2.1), some (.int e.2.2)] := rfl
  have t1 : (gOr (gNot (gB (gChain dLe dLt (gC (.int 0)) (gVar 3) (gVar 0)))) (gOr (gNot (gB (gChain dLe dLt (gC (.int 0)) (gVar 4) (gVar 0)))) (gB (gBin dEq (gVar 3) (gVar 4))))) [some (.int s), some (eD e), some (.int k), some (.int e.1), some (.int e.2.1), some (.int e.2.2)] = .ok (bad1 s e) := bad1_e rfl rfl rfl
  have t2 : (gNot (gB (gChain dLe dLe (gC (.int 0)) (gVar 5) (gC (.int 1048576))))) [some (.int s), some (eD e), some (.int k), some (.int e.1), some (.int e.2.1), some (.int e.2.2)] = .ok (bad2 e) := bad2_e rfl
  unfold m_check_edge runB b_check_edge bad
  rw [st, ev_seq s1]
  cases c1 : bad1 s e with
  | true =>
    rw [c1] at t1
    rw [ev_stopE t1 (raise_i rfl)]
    rfl
  | false =>
    rw [c1] at t1
    rw [ev_skip t1]
    cases c2 : bad2 e with
    | true =>
      rw [c2] at t2
      rw [ev_ifS t2, if_pos rfl, raise_i (i := k) rfl]
      rfl
    | false =>
      rw [c2] at t2
      rw [ev_ifS t2]
      rfl
/-! the first bad one -/
def fstB (b : Nat → Option Str) : Nat → Nat → Option (Str × Nat)
  | _, 0 => none
  | i, n + 1 => match b i with
    | some c => some (c, i)
    | none => fstB b (i + 1) n
theorem forG_fst {tg : GG} {b : GS} {bd : Nat → Option Str} {I : EnvD → Prop} {St : Str → Nat → Out → Prop} (N : Nat) (hs : ∀ c k o, St c k o → (∃ d ρ, o = .rt d ρ) ∨ ∃ c d, o = .ex c d)
    (hi : ∀ (i : Nat) (ρ : EnvD), i < N → I ρ → ∃ ρ1, tg (.int ((0 : Int) + (i : Int))) ρ = .ok ρ1 ∧ (bd i = none → ∃ ρ2, b ρ1 = .nx ρ2 ∧ I ρ2) ∧ ∀ c, bd i = some c → St c i (b ρ1)) (n i : Nat) (ρ : EnvD) (hn : i + n ≤ N) (h : I ρ) :
    (fstB bd i n = none → ∃ ρ', forG tg b ((List.range' i n).map fun k : Nat => DV.int ((0 : Int) + (k : Int))) ρ = .nx ρ' ∧ I ρ') ∧ ∀ c k, fstB bd i n = some (c, k) → St c k (forG tg b ((List.range' i n).map fun k : Nat => DV.int ((0 : Int) + (k : Int))) ρ) := by
  induction n generalizing i ρ with
  | zero => exact ⟨fun _ => ⟨ρ, rfl, h⟩, fun c k e => (by cases e)⟩
  | succ n ih =>
    obtain ⟨ρ1, e1, h2, h3⟩ := hi i ρ (by omega) h
    rw [List.range'_succ, List.map_cons]
    unfold fstB
    cases e : bd i with
    | none =>
      obtain ⟨ρ2, e2, h4⟩ := h2 e
      rw [forG_cons e1 e2]
      exact ih (i + 1) ρ2 (by omega) h4
    | some c =>
      refine ⟨fun z => (by cases z), fun c2 k z => ?_⟩
      cases z
      have z := h3 c e
      rcases hs c i _ z with ⟨d, ρ', q⟩ | ⟨c', d, q⟩
      · rw [forG_consR e1 q]
        rw [q] at z
        exact z
      · have w : forG tg b (.int ((0 : Int) + (i : Int)) :: (List.range' (i + 1) n).map fun k : Nat => DV.int ((0 : Int) + (k : Int))) ρ = .ex c' d := by
          conv => lhs; unfold forG
          rw [e1]
          dsimp only
          rw [q]
        rw [w]
        rw [q] at z
        exact z
theorem ev_forX {gi : GI} {tg : GG} {b : GS} {ρ : EnvD} {its : List DV} {c : Str} {d : DV} (h1 : gi ρ = .ok its) (h2 : forG tg b its ρ = .ex c d) : gFor gi tg b ρ = .ex c d := by
  unfold gFor
  rw [h1]
  exact h2
theorem fstB_kind {b : Nat → Option Str} {P : Str → Prop} (hb : ∀ i c, b i = some c → P c) : ∀ {n i : Nat} {c : Str} {k : Nat}, fstB b i n = some (c, k) → P c
  | 0, i, c, k, h => by cases h
  | n + 1, i, c, k, h => by
    unfold fstB at h
    cases e : b i with
    | none => rw [e] at h; exact fstB_kind hb h
    | some c' => rw [e] at h; cases h; exact hb i _ e
abbrev net (s : Int) (es : List Ed) : DV := .obj "Network" ["_size", "_edges"] [.int s, esD es]
def bdAt (s : Int) (es : List Ed) (i : Nat) : Option Str := bad s (es.getD i (0, 0, 0))
/-- what __init__ does -/
def initR (s : Int) (es : List Ed) : Rs DV := if (decide (1 ≤ s) && decide (s ≤ 40)) = true then (if decide (200 < (es.length : Int)) = true then .ex "TooMany" (.int es.length) else match fstB (bdAt s es) 0 es.length with | none => .ok (net s es) | some (c, k) => .ex c (.int (k : Int))) else .ex "OutOfRange" (.int s)
def iBody : GS := (gDrop (gPure (gCB m_check_edge (aCons (gVar 1) (aCons (gImm (gBin dIx (gVar 2) (gVar 3))) (aCons (gVar 3) aNil))))))
def KI (O : Option DV) (s : Int) (es : List Ed) (ρ : EnvD) : Prop := ∃ t, ρ = [O, some (.int s), some (esD es), t]
theorem imm_e {g : GE} {ρ : EnvD} {d : DV} (h : g ρ = .ok d) (hi : imm d = true) : gImm g ρ = .ok d := by
  unfold gImm
  rw [h]
  exact if_pos hi
theorem imms_es (es : List Ed) : imms (es.map eD) = true := by
  induction es with
  | nil => rfl
  | cons e es ih => exact (Bool.and_eq_true _ _).mpr ⟨rfl, ih⟩
theorem immL_e {g : GE} {ρ : EnvD} {es : List Ed} (h : g ρ = .ok (esD es)) : gImmL g ρ = .ok (esD es) := by
  unfold gImmL
  rw [h]
  exact if_pos (imms_es es)
theorem dropE {g : GE} {ρ : EnvD} {c : Str} {d : DV} (h : g ρ = .ex c d) : gDrop (gPure g) ρ = .ex c d := drop_x h
theorem init_ok {s : Int} {es : List Ed} (hl : es.length ≤ 1000) : m_Network___init__ [.int s, esD es] = initR s es := by
  have st : startN "Network" 3 [.int s, esD es] = [some (.obj "Network" [] []), some (.int s), some (esD es), none] := rfl
  have t1 : (gNot (gB (gChain dLe dLe (gC (.int 1)) (gVar 1) (gC (.int 40))))) [some (.obj "Network" [] []), some (.int s), some (esD es), none] = .ok (!(decide (1 ≤ s) && decide (s ≤ 40))) := not_e (b_e (chain_le rfl rfl rfl))
  have ln : ∀ ρ, lk ρ 2 = .ok (esD es) → gCB dLen (aCons (gVar 2) aNil) ρ = .ok (.int es.length) := fun ρ h => len_e (g := eD) (xs := es) h
  have t2 : (gB (gBin dGt (gCB dLen (aCons (gVar 2) aNil)) (gC (.int 200)))) [some (.obj "Network" [] []), some (.int s), some (esD es), none] = .ok (decide (200 < (es.length : Int))) := b_e ((bin_e (ln _ rfl) rfl).trans dGt_i)
  unfold m_Network___init__ DL.runN b_Network___init__ initR
  rw [st]
  cases c1 : (decide (1 ≤ s) && decide (s ≤ 40)) with
  | false =>
    rw [c1] at t1
    rw [ev_stopE t1 (raise_i rfl)]
    rfl
  | true =>
    rw [c1] at t1
    rw [ev_skip t1]
    cases c2 : decide (200 < (es.length : Int)) with
    | true =>
      rw [c2] at t2
      rw [ev_stopE t2 (raise_i (ln _ rfl))]
      rfl
    | false =>
      rw [c2] at t2
      rw [ev_skip t2]
      have z := forG_fst (tg := gtName 3) (b := iBody) (bd := bdAt s es) (I := KI (some (.obj "Network" [] [])) s es) (St := fun c k o => o = .ex c (.int (k : Int))) es.length (fun c k o h => .inr ⟨_, _, h⟩) (fun i ρ hi h => by
        obtain ⟨t, rfl⟩ := h
        refine ⟨[some (.obj "Network" [] []), some (.int s), some (esD es), some (.int ((0 : Int) + (i : Int)))], rfl, ?_⟩
        have g : gImm (gBin dIx (gVar 2) (gVar 3)) [some (.obj "Network" [] []), some (.int s), some (esD es), some (.int ((0 : Int) + (i : Int)))] = .ok (eD es[i]) := imm_e ((bin_e rfl rfl).trans (dIx_g (g := eD) (xs := es) i (by omega) hi)) rfl
        have ce := (cb3 (o := m_check_edge) (a := gVar 1) (c := gVar 3) (ρ := [some (.obj "Network" [] []), some (.int s), some (esD es), some (.int ((0 : Int) + (i : Int)))]) rfl g rfl).trans check_ok
        have eb : bdAt s es i = bad s es[i] := by unfold bdAt; rw [getD_lt hi]
        rw [eb]
        refine ⟨fun h => ⟨_, drop_e (by rw [ce, h]), _, rfl⟩, fun c h => ?_⟩
        unfold iBody
        rw [drop_x (cn := c) (d := .int ((0 : Int) + (i : Int))) (by rw [ce, h]), Int.zero_add]) es.length 0 [some (.obj "Network" [] []), some (.int s), some (esD es), none] (by omega) ⟨none, rfl⟩
      have it : gRng1 (aCons (gCB dLen (aCons (gVar 2) aNil)) aNil) [some (.obj "Network" [] []), some (.int s), some (esD es), none] = .ok (rngD 0 es.length) := rng1_e (ln _ rfl) rfl hl
      show finN (gSeq (gFor _ _ iBody) _ _) = _
      cases c3 : fstB (bdAt s es) 0 es.length with
      | none =>
        obtain ⟨ρ', f1, t, e1⟩ := z.1 c3
        have s4 : (gSetF 0 "Network" "_size" (gPure (gVar 1))) [some (.obj "Network" [] []), some (.int s), some (esD es), t] = .nx [some (.obj "Network" ["_size"] [.int s]), some (.int s), some (esD es), t] := rfl
        have s5 : (gSetF 0 "Network" "_edges" (gPure (gCB dList (aCons (gImmL (gVar 2)) aNil)))) [some (.obj "Network" ["_size"] [.int s]), some (.int s), some (esD es), t] = .nx [some (net s es), some (.int s), some (esD es), t] := by
          have q : gCB dList (aCons (gImmL (gVar 2)) aNil) [some (.obj "Network" ["_size"] [.int s]), some (.int s), some (esD es), t] = .ok (esD es) := (cb1 (immL_e rfl)).trans rfl
          unfold gSetF
          rw [ev_pure, q]
          rfl
        rw [ev_seq (ev_for it (by rw [rngD_eq]; exact f1)), e1, ev_seq s4, s5]
        rfl
      | some p =>
        obtain ⟨c, k⟩ := p
        have f1 := z.2 c k c3
        rw [ev_seqE (ev_forX it (by rw [rngD_eq]; exact f1))]
        rfl
end M
end

/-! text N4 -/
section
set_option maxRecDepth 100000
set_option maxHeartbeats 4000000
namespace M
open PySem DL
abbrev kd (a b c e : Bool) (d : DV) : DV := .tup [.lst [.bl a, .bl b, .bl c, .bl e], d]
def due (s : Int) (es : List Ed) : DV := if (decide (1 ≤ s) && decide (s ≤ 40)) = true then (if decide (200 < (es.length : Int)) = true then kd false true false false (.int es.length) else match fstB (bdAt s es) 0 es.length with | none => .non | some (c, k) => kd false false (decide (c = "BadVertex")) (decide (c = "BadPrice")) (.int (k : Int))) else kd true false false false (.int s)
theorem bad_kind {s : Int} {e : Ed} {c : Str} (h : bad s e = some c) : c = "BadVertex" ∨ c = "BadPrice" := by
  unfold bad at h
  split at h
  · cases h; exact .inl rfl
  · split at h
    · cases h; exact .inr rfl
    · cases h
theorem made_ex {s : Int} {es : List Ed} {c : Str} {i : Int} (h : m_Network___init__ [.int s, esD es] = .ex c (.int i)) : m__law_made [.int s, esD es] = .ok (kd (decide (c = "OutOfRange")) (decide (c = "TooMany")) (decide (c = "BadVertex")) (decide (c = "BadPrice")) (.int i)) := by
  have st : startD 4 [.int s, esD es] = [some (.int s), some (esD es), none, none] := rfl
  have b : gDrop (gPure (gCB m_Network___init__ (aCons (gVar 0) (aCons (gVar 1) aNil)))) [some (.int s), some (esD es), none, none] = .ex c (.int i) := drop_x ((cb2 rfl rfl).trans h)
  unfold m__law_made runB b__law_made
  rw [st, ev_seqR (d := kd (decide (c = "OutOfRange")) (decide (c = "TooMany")) (decide (c = "BadVertex")) (decide (c = "BadPrice")) (.int i)) (ρ' := [none, none, none, some (.lst [.bl (decide (c = "OutOfRange")), .bl (decide (c = "TooMany")), .bl (decide (c = "BadVertex"))])]) (by
    unfold gTry
    rw [b]
    rfl)]
  rfl
theorem made_no {s : Int} {es : List Ed} {d : DV} (h : m_Network___init__ [.int s, esD es] = .ok d) : m__law_made [.int s, esD es] = .ok .non := by
  have st : startD 4 [.int s, esD es] = [some (.int s), some (esD es), none, none] := rfl
  have b : gDrop (gPure (gCB m_Network___init__ (aCons (gVar 0) (aCons (gVar 1) aNil)))) [some (.int s), some (esD es), none, none] = .nx [some (.int s), some (esD es), none, none] := drop_e ((cb2 rfl rfl).trans h)
  unfold m__law_made runB b__law_made
  rw [st, ev_seq (ρ' := [some (.int s), some (esD es), none, none]) (by
    unfold gTry
    rw [b])]
  rfl
theorem made_ok {s : Int} {es : List Ed} (hl : es.length ≤ 1000) : m__law_made [.int s, esD es] = .ok (due s es) := by
  have z := init_ok (s := s) hl
  unfold initR at z
  unfold due
  cases c1 : (decide (1 ≤ s) && decide (s ≤ 40)) with
  | false =>
    rw [c1] at z
    exact made_ex z
  | true =>
    rw [c1] at z
    rw [if_pos rfl] at z ⊢
    cases c2 : decide (200 < (es.length : Int)) with
    | true =>
      rw [c2] at z
      exact made_ex z
    | false =>
      rw [c2] at z
      rw [if_neg (by decide)] at z ⊢
      cases c3 : fstB (bdAt s es) 0 es.length with
      | none =>
        rw [c3] at z
        exact made_no z
      | some p =>
        obtain ⟨c, k⟩ := p
        rw [c3] at z
        have kk := fstB_kind (P := fun c => c = "BadVertex" ∨ c = "BadPrice") (fun i c h => bad_kind h) c3
        rw [made_ex z]
        rcases kk with e | e <;> subst e <;> rfl
def dBody : GS := (gSeq (gAsg (gPure (gBin dIx (gVar 1) (gVar 2))) (gtTup [3, 4, 5])) (gSeq (gIfS (gOr (gNot (gB (gChain dLe dLt (gC (.int 0)) (gVar 3) (gVar 0)))) (gOr (gNot (gB (gChain dLe dLt (gC (.int 0)) (gVar 4) (gVar 0)))) (gB (gBin dEq (gVar 3) (gVar 4))))) (gRet (gPure (eTup (aCons (eLst (aCons (gC (.bl false)) (aCons (gC (.bl false)) (aCons (gC (.bl true)) (aCons (gC (.bl false)) aNil))))) (aCons (gVar 2) aNil))))) gNext) (gIfS (gNot (gB (gChain dLe dLe (gC (.int 0)) (gVar 5) (gC (.int 1048576))))) (gRet (gPure (eTup (aCons (eLst (aCons (gC (.bl false)) (aCons (gC (.bl false)) (aCons (gC (.bl false)) (aCons (gC (.bl true)) aNil))))) (aCons (gVar 2) aNil))))) gNext)))
theorem law_due_ok {s : Int} {es : List Ed} (hl : es.length ≤ 1000) : m__law_due [.int s, esD es] = .ok (due s es) := by
  have st : startD 6 [.int s, esD es] = [some (.int s), some (esD es), none, none, none, none] := rfl
  have t1 : (gNot (gB (gChain dLe dLe (gC (.int 1)) (gVar 0) (gC (.int 40))))) [some (.int s), some (esD es), none, none, none, none] = .ok (!(decide (1 ≤ s) && decide (s ≤ 40))) := not_e (b_e (chain_le rfl rfl rfl))
  have ln : ∀ ρ, lk ρ 1 = .ok (esD es) → gCB dLen (aCons (gVar 1) aNil) ρ = .ok (.int es.length) := fun ρ h => len_e (g := eD) (xs := es) h
  have t2 : (gB (gBin dGt (gCB dLen (aCons (gVar 1) aNil)) (gC (.int 200)))) [some (.int s), some (esD es), none, none, none, none] = .ok (decide (200 < (es.length : Int))) := b_e ((bin_e (ln _ rfl) rfl).trans dGt_i)
  unfold m__law_due runB b__law_due due
  rw [st]
  cases c1 : (decide (1 ≤ s) && decide (s ≤ 40)) with
  | false =>
    rw [c1] at t1
    rw [ev_stop (ρ' := [some (.int s), some (esD es), none, none, none, none]) (d := kd true false false false (.int s)) t1 (ret_e (tup2 rfl rfl))]
    rfl
  | true =>
    rw [c1] at t1
    rw [ev_skip t1, if_pos rfl]
    cases c2 : decide (200 < (es.length : Int)) with
    | true =>
      rw [c2] at t2
      rw [ev_stop (ρ' := [some (.int s), some (esD es), none, none, none, none]) (d := kd false true false false (.int es.length)) t2 (ret_e (tup2 rfl (ln _ rfl)))]
      rfl
    | false =>
      rw [c2] at t2
      rw [ev_skip t2, if_neg (by decide)]
      have z := forG_fst (tg := gtName 2) (b := dBody) (bd := bdAt s es) (I := fun ρ => ∃ a b c d, ρ = [some (.int s), some (esD es), a, b, c, d]) (St := fun c k o => ∃ ρ', o = .rt (kd false false (decide (c = "BadVertex")) (decide (c = "BadPrice")) (.int (k : Int))) ρ') es.length (fun c k o ⟨ρ', h⟩ => .inl ⟨_, _, h⟩) (fun i ρ hi h => by
        obtain ⟨a, b, c, d, rfl⟩ := h
        refine ⟨[some (.int s), some (esD es), some (.int ((0 : Int) + (i : Int))), b, c, d], rfl, ?_⟩
        have eb : bdAt s es i = bad s es[i] := by unfold bdAt; rw [getD_lt hi]
        have g : gBin dIx (gVar 1) (gVar 2) [some (.int s), some (esD es), some (.int ((0 : Int) + (i : Int))), b, c, d] = .ok (eD es[i]) := (bin_e rfl rfl).trans (dIx_g (g := eD) (xs := es) i (by omega) hi)
        rw [eb]
        generalize es[i] = e at g
        have s1 : (gAsg (gPure (gBin dIx (gVar 1) (gVar 2))) (gtTup [3, 4, 5])) [some (.int s), some (esD es), some (.int ((0 : Int) + (i : Int))), b, c, d] = .nx [some (.int s), some (esD es), some (.int ((0 : Int) + (i : Int))), some (.int e.1), some (.int e.2.1), some (.int e.2.2)] := by
          unfold gAsg
          rw [ev_pure, g]
          rfl
        have u1 : (gOr (gNot (gB (gChain dLe dLt (gC (.int 0)) (gVar 3) (gVar 0)))) (gOr (gNot (gB (gChain dLe dLt (gC (.int 0)) (gVar 4) (gVar 0)))) (gB (gBin dEq (gVar 3) (gVar 4))))) [some (.int s), some (esD es), some (.int ((0 : Int) + (i : Int))), some (.int e.1), some (.int e.2.1), some (.int e.2.2)] = .ok (bad1 s e) := bad1_e rfl rfl rfl
        have u2 : (gNot (gB (gChain dLe dLe (gC (.int 0)) (gVar 5) (gC (.int 1048576))))) [some (.int s), some (esD es), some (.int ((0 : Int) + (i : Int))), some (.int e.1), some (.int e.2.1), some (.int e.2.2)] = .ok (bad2 e) := bad2_e rfl
        unfold dBody bad
        rw [ev_seq s1]
        cases d1 : bad1 s e with
        | true =>
          rw [d1] at u1
          refine ⟨fun h => (by cases h), fun c h => ?_⟩
          cases h
          exact ⟨_, by rw [ev_stop u1 (ret_e (tup2 rfl rfl)), Int.zero_add]; rfl⟩
        | false =>
          rw [d1] at u1
          rw [ev_skip u1]
          cases d2 : bad2 e with
          | true =>
            rw [d2] at u2
            refine ⟨fun h => (by cases h), fun c h => ?_⟩
            cases h
            exact ⟨_, by rw [ev_ifS u2, if_pos rfl, ret_e (tup2 rfl rfl), Int.zero_add]; rfl⟩
          | false =>
            rw [d2] at u2
            refine ⟨fun _ => ⟨_, by rw [ev_ifS u2]; rfl, _, _, _, _, rfl⟩, fun c h => (by cases h)⟩) es.length 0 [some (.int s), some (esD es), none, none, none, none] (by omega) ⟨none, none, none, none, rfl⟩
      have it : gRng1 (aCons (gCB dLen (aCons (gVar 1) aNil)) aNil) [some (.int s), some (esD es), none, none, none, none] = .ok (rngD 0 es.length) := rng1_e (ln _ rfl) rfl hl
      show finB (gSeq (gFor _ _ dBody) _ _) = _
      cases c3 : fstB (bdAt s es) 0 es.length with
      | none =>
        obtain ⟨ρ', f1, _⟩ := z.1 c3
        rw [ev_seq (ev_for it (by rw [rngD_eq]; exact f1))]
        rfl
      | some p =>
        obtain ⟨c, k⟩ := p
        obtain ⟨ρ', f1⟩ := z.2 c k c3
        rw [ev_seqR (ev_forR it (by rw [rngD_eq]; exact f1))]
        rfl
theorem ne_due {s : Int} {es : List Ed} : dNe (due s es) (due s es) = .ok (.bl false) := by
  have k : ∀ (a b c e : Bool) (i : Int), dNe (kd a b c e (.int i)) (kd a b c e (.int i)) = .ok (.bl false) := fun a b c e i => by
    unfold dNe
    rw [if_pos (by rfl)]
    simp [eqv, py, pys, PyData.eqv, PyData.eqvAll]
  unfold due
  split
  · split
    · exact k ..
    · split
      · rfl
      · exact k ..
  · exact k ..
end M
end

/-! text N5 -/
section
set_option maxRecDepth 100000
set_option maxHeartbeats 4000000
namespace M
open PySem DL
theorem meth_e {c m : Str} {f : List DV → Rs DV} {g : GE} {ga : GA} {ρ : EnvD} {ns : List Str} {dd es : List DV} (h : g ρ = .ok (.obj c ns dd)) (hm : m ∉ ns) (ha : ga ρ = .ok es) : gMeth c m f g ga ρ = f (.obj c ns dd :: es) := by
  unfold gMeth
  rw [h]
  show (if c = c ∧ m ∉ ns then _ else _) = _
  rw [if_pos ⟨rfl, hm⟩, ha]
theorem a1_e {g : GE} {ρ : EnvD} {x : DV} (h : g ρ = .ok x) : aCons g aNil ρ = .ok [x] := by
  rw [ev_cons, h]
  rfl
theorem a2_e {g k : GE} {ρ : EnvD} {x y : DV} (h : g ρ = .ok x) (h2 : k ρ = .ok y) : aCons g (aCons k aNil) ρ = .ok [x, y] := by
  rw [ev_cons, h, ev_cons, h2]
  rfl
theorem f_size {s : Int} {es : List Ed} {ρ : EnvD} {i : Nat} (e : lk ρ i = .ok (net s es)) : gFld "Network" "_size" (gVar i) ρ = .ok (.int s) := by
  unfold gFld
  rw [ev_var, e]
  rfl
theorem f_edges {s : Int} {es : List Ed} {ρ : EnvD} {i : Nat} (e : lk ρ i = .ok (net s es)) : gFld "Network" "_edges" (gVar i) ρ = .ok (esD es) := by
  unfold gFld
  rw [ev_var, e]
  rfl
theorem fe_len {s : Int} {es : List Ed} {ρ : EnvD} {i : Nat} (e : lk ρ i = .ok (net s es)) : gCB dLen (aCons (gFld "Network" "_edges" (gVar i)) aNil) ρ = .ok (.int es.length) := lenD_e (f := eD) (xs := es) (f_edges e)
theorem size_ok {s : Int} {es : List Ed} : m_Network_size [net s es] = .ok (.int s) := by
  have st : startD 1 [net s es] = [some (net s es)] := rfl
  unfold m_Network_size runB b_Network_size
  rw [st, ret_e (f_size rfl)]
  rfl
theorem edges_ok {s : Int} {es : List Ed} : m_Network_edges [net s es] = .ok (esD es) := by
  have st : startD 1 [net s es] = [some (net s es)] := rfl
  unfold m_Network_edges runB b_Network_edges
  rw [st, ret_e ((cb1 (f_edges rfl)).trans rfl)]
  rfl
theorem vert_ok {s v : Int} {es : List Ed} : m_Network_check_vertex [net s es, .int v] = if (decide (0 ≤ v) && decide (v < s)) = true then .ok .non else .ex "BadVertex" (.int v) := by
  have st : startD 2 [net s es, .int v] = [some (net s es), some (.int v)] := rfl
  have t : (gNot (gB (gChain dLe dLt (gC (.int 0)) (gVar 1) (gFld "Network" "_size" (gVar 0))))) [some (net s es), some (.int v)] = .ok (!(decide (0 ≤ v) && decide (v < s))) := not_e (b_e (chain_lt rfl rfl (f_size rfl)))
  unfold m_Network_check_vertex runB b_Network_check_vertex
  rw [st, ev_ifS t]
  cases c : (decide (0 ≤ v) && decide (v < s)) with
  | true => rfl
  | false =>
    rw [if_pos (show (!false) = true from rfl), raise_i rfl]
    rfl
/-! lists of numbers that pass a test -/
theorem lcLoop_flt {h : DV → Rs (Option DV)} {p : Nat → Bool} : ∀ {xs : List Nat}, (∀ i ∈ xs, h (.int ((0 : Int) + (i : Int))) = .ok (if p i = true then some (.int (i : Int)) else none)) → lcLoop h (xs.map fun k : Nat => DV.int ((0 : Int) + (k : Int))) = .ok ((xs.filter p).map fun i : Nat => DV.int (i : Int))
  | [], _ => rfl
  | x :: xs, k => by
    rw [List.map_cons]
    unfold lcLoop
    rw [k x List.mem_cons_self]
    dsimp only [Rs.bind]
    rw [lcLoop_flt (xs := xs) fun y hy => k y (List.mem_cons_of_mem _ hy), List.filter_cons]
    cases p x <;> rfl
theorem lcLoop_flt2 {h : DV → Rs (Option DV)} {p : Nat → Bool} : ∀ {xs : List Nat}, (∀ i ∈ xs, h (.int (i : Int)) = .ok (if p i = true then some (.int (i : Int)) else none)) → lcLoop h (xs.map fun k : Nat => DV.int (k : Int)) = .ok ((xs.filter p).map fun i : Nat => DV.int (i : Int))
  | [], _ => rfl
  | x :: xs, k => by
    rw [List.map_cons]
    unfold lcLoop
    rw [k x List.mem_cons_self]
    dsimp only [Rs.bind]
    rw [lcLoop_flt2 (xs := xs) fun y hy => k y (List.mem_cons_of_mem _ hy), List.filter_cons]
    cases p x <;> rfl
theorem lc_b {tg : GG} {gt : GT} {ge : GE} {ρ ρ1 : EnvD} {d x : DV} {z : Bool} (h1 : tg d ρ = .ok ρ1) (h2 : gt ρ1 = .ok z) (h3 : ge ρ1 = .ok x) : lcTurn tg gt ge ρ d = .ok (if z = true then some x else none) := by
  cases z with
  | true => exact lc_yes h1 h2 h3
  | false => exact lc_no h1 h2
abbrev nD (ks : List Nat) : DV := .lst (ks.map fun i : Nat => DV.int (i : Int))
def inE (v : Int) (e : Ed) : Bool := L2.inV (.int v) [.int e.1, .int e.2.1]
theorem inE_1 {v : Int} {e : Ed} (h : e.1 = v) : inE v e = true := by
  unfold inE L2.inV
  subst h
  simp [L2.eqV]
theorem inE_2 {v : Int} {e : Ed} (h : e.2.1 = v) : inE v e = true := by
  unfold inE L2.inV
  subst h
  simp [L2.eqV]
def eAt (es : List Ed) (i : Nat) : Ed := es.getD i (0, 0, 0)
def arr (v : Int) (es : List Ed) : List Nat := (List.range es.length).filter fun i => inE v (eAt es i)
def lea (v : Int) (es : List Ed) : List Nat := (List.range es.length).filter fun i => decide ((eAt es i).1 = v)
def ent (v : Int) (es : List Ed) : List Nat := (List.range es.length).filter fun i => decide ((eAt es i).2.1 = v)
theorem ix_at {es : List Ed} {i : Nat} {z : Int} (e : z = (i : Int)) (h : i < es.length) : dIx (esD es) (.int z) = .ok (eD (eAt es i)) := by
  unfold eAt
  rw [getD_lt h]
  exact dIx_g (g := eD) (xs := es) i e h
theorem sl2 {g : GE} {ρ : EnvD} {e : Ed} (h : g ρ = .ok (eD e)) : gSl g gNoPart (gPart (gC (.int 2))) ρ = .ok (.tup [.int e.1, .int e.2.1]) := by
  unfold gSl
  rw [h]
  rfl
theorem in_e {a b : GE} {ρ : EnvD} {v : Int} {e : Ed} (h1 : a ρ = .ok (.int v)) (h2 : b ρ = .ok (.tup [.int e.1, .int e.2.1])) : gB (gBin dIn a b) ρ = .ok (inE v e) := b_e ((bin_e h1 h2).trans rfl)

theorem around_ok {s v : Int} {es : List Ed} (hl : es.length ≤ 1000) (h0 : 0 ≤ v) (h1 : v < s) : m_Network_around [net s es, .int v] = .ok (nD (arr v es)) := by
  have st : startD 3 [net s es, .int v] = [some (net s es), some (.int v), none] := rfl
  have s1 : (gDrop (gPure (gMeth "Network" "check_vertex" m_Network_check_vertex (gVar 0) (aCons (gVar 1) aNil)))) [some (net s es), some (.int v), none] = .nx [some (net s es), some (.int v), none] := by
    refine drop_e (d := .non) ((meth_e rfl (by decide) (a1_e rfl)).trans (vert_ok.trans ?_))
    rw [decide_eq_true h0, decide_eq_true h1]
    rfl
  have key : (gLc (gRng1 (aCons (gCB dLen (aCons (gFld "Network" "_edges" (gVar 0)) aNil)) aNil)) (gtName 2) (gB (gBin dIn (gVar 1) (gSl (gBin dIx (gFld "Network" "_edges" (gVar 0)) (gVar 2)) gNoPart (gPart (gC (.int 2)))))) (gVar 2) [2]) [some (net s es), some (.int v), none] = .ok (nD (arr v es)) := by
    refine ev_lc (rng1_e (fe_len rfl) rfl hl) (rngD_len hl) ?_
    unfold rngD
    refine lcLoop_flt fun i hi => ?_
    have hi := List.mem_range.mp hi
    refine (lc_b (ρ1 := [some (net s es), some (.int v), some (.int ((0 : Int) + (i : Int)))]) rfl (in_e rfl (sl2 ((bin_e (f_edges rfl) rfl).trans (ix_at (by omega) hi)))) rfl).trans ?_
    rw [Int.zero_add]
  unfold m_Network_around runB b_Network_around
  rw [st, ev_seq s1, ret_e key]
  rfl
theorem around_ex {s v : Int} {es : List Ed} (h : ¬ (0 ≤ v ∧ v < s)) : m_Network_around [net s es, .int v] = .ex "BadVertex" (.int v) := by
  have st : startD 3 [net s es, .int v] = [some (net s es), some (.int v), none] := rfl
  have s1 : (gDrop (gPure (gMeth "Network" "check_vertex" m_Network_check_vertex (gVar 0) (aCons (gVar 1) aNil)))) [some (net s es), some (.int v), none] = .ex "BadVertex" (.int v) := by
    refine drop_x (cn := "BadVertex") (d := .int v) ((meth_e rfl (by decide) (a1_e rfl)).trans (vert_ok.trans ?_))
    rw [if_neg]
    intro z
    obtain ⟨z1, z2⟩ := (Bool.and_eq_true _ _).mp z
    exact h ⟨of_decide_eq_true z1, of_decide_eq_true z2⟩
  unfold m_Network_around runB b_Network_around
  rw [st, ev_seqE s1]
  rfl

theorem leaving_ok {s v : Int} {es : List Ed} (hl : es.length ≤ 1000) (h0 : 0 ≤ v) (h1 : v < s) : m_Network_leaving [net s es, .int v] = .ok (nD (lea v es)) := by
  have st : startD 3 [net s es, .int v] = [some (net s es), some (.int v), none] := rfl
  have s1 : (gDrop (gPure (gMeth "Network" "check_vertex" m_Network_check_vertex (gVar 0) (aCons (gVar 1) aNil)))) [some (net s es), some (.int v), none] = .nx [some (net s es), some (.int v), none] := by
    refine drop_e (d := .non) ((meth_e rfl (by decide) (a1_e rfl)).trans (vert_ok.trans ?_))
    rw [decide_eq_true h0, decide_eq_true h1]
    rfl
  have key : (gLc (gRng1 (aCons (gCB dLen (aCons (gFld "Network" "_edges" (gVar 0)) aNil)) aNil)) (gtName 2) (gB (gBin dEq (gBin dIx (gBin dIx (gFld "Network" "_edges" (gVar 0)) (gVar 2)) (gC (.int 0))) (gVar 1))) (gVar 2) [2]) [some (net s es), some (.int v), none] = .ok (nD (lea v es)) := by
    refine ev_lc (rng1_e (fe_len rfl) rfl hl) (rngD_len hl) ?_
    unfold rngD
    refine lcLoop_flt fun i hi => ?_
    have hi := List.mem_range.mp hi
    refine (lc_b (ρ1 := [some (net s es), some (.int v), some (.int ((0 : Int) + (i : Int)))]) rfl (b_e ((bin_e ((bin_e ((bin_e (f_edges rfl) rfl).trans (ix_at (by omega) hi)) rfl).trans ix3_0) rfl).trans dEq_i)) rfl).trans ?_
    rw [Int.zero_add]
  unfold m_Network_leaving runB b_Network_leaving
  rw [st, ev_seq s1, ret_e key]
  rfl
theorem leaving_ex {s v : Int} {es : List Ed} (h : ¬ (0 ≤ v ∧ v < s)) : m_Network_leaving [net s es, .int v] = .ex "BadVertex" (.int v) := by
  have st : startD 3 [net s es, .int v] = [some (net s es), some (.int v), none] := rfl
  have s1 : (gDrop (gPure (gMeth "Network" "check_vertex" m_Network_check_vertex (gVar 0) (aCons (gVar 1) aNil)))) [some (net s es), some (.int v), none] = .ex "BadVertex" (.int v) := by
    refine drop_x (cn := "BadVertex") (d := .int v) ((meth_e rfl (by decide) (a1_e rfl)).trans (vert_ok.trans ?_))
    rw [if_neg]
    intro z
    obtain ⟨z1, z2⟩ := (Bool.and_eq_true _ _).mp z
    exact h ⟨of_decide_eq_true z1, of_decide_eq_true z2⟩
  unfold m_Network_leaving runB b_Network_leaving
  rw [st, ev_seqE s1]
  rfl

theorem entering_ok {s v : Int} {es : List Ed} (hl : es.length ≤ 1000) (h0 : 0 ≤ v) (h1 : v < s) : m_Network_entering [net s es, .int v] = .ok (nD (ent v es)) := by
  have st : startD 3 [net s es, .int v] = [some (net s es), some (.int v), none] := rfl
  have s1 : (gDrop (gPure (gMeth "Network" "check_vertex" m_Network_check_vertex (gVar 0) (aCons (gVar 1) aNil)))) [some (net s es), some (.int v), none] = .nx [some (net s es), some (.int v), none] := by
    refine drop_e (d := .non) ((meth_e rfl (by decide) (a1_e rfl)).trans (vert_ok.trans ?_))
    rw [decide_eq_true h0, decide_eq_true h1]
    rfl
  have key : (gLc (gRng1 (aCons (gCB dLen (aCons (gFld "Network" "_edges" (gVar 0)) aNil)) aNil)) (gtName 2) (gB (gBin dEq (gBin dIx (gBin dIx (gFld "Network" "_edges" (gVar 0)) (gVar 2)) (gC (.int 1))) (gVar 1))) (gVar 2) [2]) [some (net s es), some (.int v), none] = .ok (nD (ent v es)) := by
    refine ev_lc (rng1_e (fe_len rfl) rfl hl) (rngD_len hl) ?_
    unfold rngD
    refine lcLoop_flt fun i hi => ?_
    have hi := List.mem_range.mp hi
    refine (lc_b (ρ1 := [some (net s es), some (.int v), some (.int ((0 : Int) + (i : Int)))]) rfl (b_e ((bin_e ((bin_e ((bin_e (f_edges rfl) rfl).trans (ix_at (by omega) hi)) rfl).trans ix3_1) rfl).trans dEq_i)) rfl).trans ?_
    rw [Int.zero_add]
  unfold m_Network_entering runB b_Network_entering
  rw [st, ev_seq s1, ret_e key]
  rfl
theorem entering_ex {s v : Int} {es : List Ed} (h : ¬ (0 ≤ v ∧ v < s)) : m_Network_entering [net s es, .int v] = .ex "BadVertex" (.int v) := by
  have st : startD 3 [net s es, .int v] = [some (net s es), some (.int v), none] := rfl
  have s1 : (gDrop (gPure (gMeth "Network" "check_vertex" m_Network_check_vertex (gVar 0) (aCons (gVar 1) aNil)))) [some (net s es), some (.int v), none] = .ex "BadVertex" (.int v) := by
    refine drop_x (cn := "BadVertex") (d := .int v) ((meth_e rfl (by decide) (a1_e rfl)).trans (vert_ok.trans ?_))
    rw [if_neg]
    intro z
    obtain ⟨z1, z2⟩ := (Bool.and_eq_true _ _).mp z
    exact h ⟨of_decide_eq_true z1, of_decide_eq_true z2⟩
  unfold m_Network_entering runB b_Network_entering
  rw [st, ev_seqE s1]
  rfl

theorem other_ok {s v : Int} {es : List Ed} {i : Nat} (hi : i < es.length) : m_Network_other_end [net s es, .int (i : Int), .int v] = .ok (.int ((eAt es i).1 + (eAt es i).2.1 - v)) := by
  have st : startD 6 [net s es, .int (i : Int), .int v] = [some (net s es), some (.int (i : Int)), some (.int v), none, none, none] := rfl
  have s1 : (gAsg (gPure (gBin dIx (gFld "Network" "_edges" (gVar 0)) (gVar 1))) (gtTup [3, 4, 5])) [some (net s es), some (.int (i : Int)), some (.int v), none, none, none] = .nx [some (net s es), some (.int (i : Int)), some (.int v), some (.int (eAt es i).1), some (.int (eAt es i).2.1), some (.int (eAt es i).2.2)] := by
    have g : gBin dIx (gFld "Network" "_edges" (gVar 0)) (gVar 1) [some (net s es), some (.int (i : Int)), some (.int v), none, none, none] = .ok (eD (eAt es i)) := (bin_e (f_edges rfl) rfl).trans (ix_at rfl hi)
    unfold gAsg
    rw [ev_pure, g]
    rfl
  unfold m_Network_other_end runB b_Network_other_end
  rw [st, ev_seq s1, ret_e ((bin_e ((bin_e rfl rfl).trans dAdd_i) rfl).trans dSub_i)]
  rfl
end M
end

/-! text N6 -/
section
set_option maxRecDepth 100000
set_option maxHeartbeats 4000000
namespace M
open PySem DL
theorem eqoks_esg : ∀ {es : List Ed}, eqoks (es.map eD) 19 = true
  | [] => rfl
  | e :: es => by
    show (eqok (eD e) 19 && eqoks (es.map eD) 19) = true
    rw [eqoks_esg (es := es)]
    rfl
theorem eqv_ed {e : Ed} : PyData.eqv (py (eD e)) (py (eD e)) = true := by simp [py, pys, PyData.eqv, PyData.eqvAll]
theorem eqv_es : ∀ {es : List Ed}, PyData.eqvAll (pys (es.map eD)) (pys (es.map eD)) = true
  | [] => by simp [pys, PyData.eqvAll]
  | e :: es => by
    show PyData.eqvAll (py (eD e) :: pys (es.map eD)) (py (eD e) :: pys (es.map eD)) = true
    unfold PyData.eqvAll
    rw [eqv_ed, eqv_es (es := es)]
    rfl
theorem ne_es {es : List Ed} : dNe (esD es) (esD es) = .ok (.bl false) := by
  have q : eqok (esD es) 20 = true := eqoks_esg
  unfold dNe
  rw [q, if_pos (by rfl)]
  have e : eqv (esD es) (esD es) = true := by
    show PyData.eqv (.list (pys (es.map eD))) (.list (pys (es.map eD))) = true
    unfold PyData.eqv
    exact eqv_es
  rw [e]
  rfl
theorem eqoks_ns : ∀ {ks : List Nat}, eqoks (ks.map fun i : Nat => DV.int (i : Int)) 19 = true
  | [] => rfl
  | k :: ks => by
    show (eqok (.int (k : Int)) 19 && eqoks (ks.map fun i : Nat => DV.int (i : Int)) 19) = true
    rw [eqoks_ns (ks := ks)]
    rfl
theorem eqv_ns : ∀ {ks : List Nat}, PyData.eqvAll (pys (ks.map fun i : Nat => DV.int (i : Int))) (pys (ks.map fun i : Nat => DV.int (i : Int))) = true
  | [] => by simp [pys, PyData.eqvAll]
  | k :: ks => by
    show PyData.eqvAll (py (.int (k : Int)) :: pys (ks.map fun i : Nat => DV.int (i : Int))) (py (.int (k : Int)) :: pys (ks.map fun i : Nat => DV.int (i : Int))) = true
    unfold PyData.eqvAll
    rw [eqv_ns (ks := ks)]
    simp [py, PyData.eqv]
theorem ne_ns {ks : List Nat} : dNe (nD ks) (nD ks) = .ok (.bl false) := by
  have q : eqok (nD ks) 20 = true := eqoks_ns
  unfold dNe
  rw [q, if_pos (by rfl)]
  have e : eqv (nD ks) (nD ks) = true := by
    show PyData.eqv (.list (pys (ks.map fun i : Nat => DV.int (i : Int)))) (.list (pys (ks.map fun i : Nat => DV.int (i : Int)))) = true
    unfold PyData.eqv
    exact eqv_ns
  rw [e]
  rfl
theorem ne_ii {x : Int} : dNe (.int x) (.int x) = .ok (.bl false) := by
  rw [dNe_i, decide_eq_true rfl]
  rfl
theorem flt_lea {v : Int} {es : List Ed} : (arr v es).filter (fun i => decide ((eAt es i).1 = v)) = lea v es := by
  unfold arr lea
  rw [List.filter_filter]
  refine List.filter_congr fun i _ => ?_
  by_cases c : (eAt es i).1 = v
  · rw [decide_eq_true c, inE_1 c]
    rfl
  · rw [decide_eq_false c]
    rfl
theorem flt_ent {v : Int} {es : List Ed} : (arr v es).filter (fun i => decide ((eAt es i).2.1 = v)) = ent v es := by
  unfold arr ent
  rw [List.filter_filter]
  refine List.filter_congr fun i _ => ?_
  by_cases c : (eAt es i).2.1 = v
  · rw [decide_eq_true c, inE_2 c]
    rfl
  · rw [decide_eq_false c]
    rfl
theorem arr_lt {v : Int} {es : List Ed} {i : Nat} (h : i ∈ arr v es) : i < es.length := List.mem_range.mp (List.mem_filter.mp h).1
theorem arr_len {v : Int} {es : List Ed} : (arr v es).length ≤ es.length := by
  have := List.length_filter_le (fun i => inE v (eAt es i)) (List.range es.length)
  rw [List.length_range] at this
  exact this
def aBody : GS := (gSeq (gAsg (gPure (gLc (gRng1 (aCons (gCB dLen (aCons (gVar 2) aNil)) aNil)) (gtName 5) (gB (gBin dIn (gVar 3) (gSl (gBin dIx (gVar 2) (gVar 5)) gNoPart (gPart (gC (.int 2)))))) (gVar 5) [5])) (gtName 4)) (gSeq (gIfS (gB (gBin dNe (gMeth "Network" "around" m_Network_around (gVar 0) (aCons (gVar 3) aNil)) (gVar 4))) (gRet (gPure (gC (.bl false)))) gNext) (gSeq (gIfS (gB (gBin dNe (gMeth "Network" "leaving" m_Network_leaving (gVar 0) (aCons (gVar 3) aNil)) (gLc (gSeqI (gVar 4)) (gtName 5) (gB (gBin dEq (gBin dIx (gBin dIx (gVar 2) (gVar 5)) (gC (.int 0))) (gVar 3))) (gVar 5) [5]))) (gRet (gPure (gC (.bl false)))) gNext) (gSeq (gIfS (gB (gBin dNe (gMeth "Network" "entering" m_Network_entering (gVar 0) (aCons (gVar 3) aNil)) (gLc (gSeqI (gVar 4)) (gtName 5) (gB (gBin dEq (gBin dIx (gBin dIx (gVar 2) (gVar 5)) (gC (.int 1))) (gVar 3))) (gVar 5) [5]))) (gRet (gPure (gC (.bl false)))) gNext) (gFor (gSeqI (gVar 4)) (gtName 5) (gIfS (gB (gBin dNe (gMeth "Network" "other_end" m_Network_other_end (gVar 0) (aCons (gVar 5) (aCons (gVar 3) aNil))) (gBin dSub (gBin dAdd (gBin dIx (gBin dIx (gVar 2) (gVar 5)) (gC (.int 0))) (gBin dIx (gBin dIx (gVar 2) (gVar 5)) (gC (.int 1)))) (gVar 3)))) (gRet (gPure (gC (.bl false)))) gNext))))))
def oBody : GS := (gIfS (gB (gBin dNe (gMeth "Network" "other_end" m_Network_other_end (gVar 0) (aCons (gVar 5) (aCons (gVar 3) aNil))) (gBin dSub (gBin dAdd (gBin dIx (gBin dIx (gVar 2) (gVar 5)) (gC (.int 0))) (gBin dIx (gBin dIx (gVar 2) (gVar 5)) (gC (.int 1)))) (gVar 3)))) (gRet (gPure (gC (.bl false)))) gNext)
def AI (s : Int) (es : List Ed) (_ : Nat) (ρ : EnvD) : Prop := ∃ t3 t4 t5 : Option DV, ρ = [some (net s es), some (.int s), some (esD es), t3, t4, t5]
theorem a_turn {s : Int} {es : List Ed} {v : Nat} {ρ : EnvD} (hl : es.length ≤ 1000) (hv : (v : Int) < s) (h : AI s es v ρ) : ∃ ρ1 ρ2, gtName 3 (.int ((0 : Int) + (v : Int))) ρ = .ok ρ1 ∧ aBody ρ1 = .nx ρ2 ∧ AI s es (v + 1) ρ2 := by
  obtain ⟨t3, t4, t5, rfl⟩ := h
  refine ⟨[some (net s es), some (.int s), some (esD es), some (.int ((0 : Int) + (v : Int))), t4, t5], ?_⟩
  have hv0 : 0 ≤ (0 : Int) + (v : Int) := by omega
  have hv1 : (0 : Int) + (v : Int) < s := by omega
  generalize hw : (0 : Int) + (v : Int) = w at *
  have k0 : (gLc (gRng1 (aCons (gCB dLen (aCons (gVar 2) aNil)) aNil)) (gtName 5) (gB (gBin dIn (gVar 3) (gSl (gBin dIx (gVar 2) (gVar 5)) gNoPart (gPart (gC (.int 2)))))) (gVar 5) [5]) [some (net s es), some (.int s), some (esD es), some (.int w), t4, t5] = .ok (nD (arr w es)) := by
    refine ev_lc (rng1_e (len_e (g := eD) (xs := es) rfl) rfl hl) (rngD_len hl) ?_
    unfold rngD
    refine lcLoop_flt fun i hi => ?_
    have hi := List.mem_range.mp hi
    refine (lc_b (ρ1 := [some (net s es), some (.int s), some (esD es), some (.int w), t4, some (.int ((0 : Int) + (i : Int)))]) rfl (in_e rfl (sl2 ((bin_e rfl rfl).trans (ix_at (by omega) hi)))) rfl).trans ?_
    rw [Int.zero_add]
  have s0 : (gAsg (gPure (gLc (gRng1 (aCons (gCB dLen (aCons (gVar 2) aNil)) aNil)) (gtName 5) (gB (gBin dIn (gVar 3) (gSl (gBin dIx (gVar 2) (gVar 5)) gNoPart (gPart (gC (.int 2)))))) (gVar 5) [5])) (gtName 4)) [some (net s es), some (.int s), some (esD es), some (.int w), t4, t5] = .nx [some (net s es), some (.int s), some (esD es), some (.int w), some (nD (arr w es)), t5] := set_e (i := 4) k0
  have sq : gSeqI (gVar 4) [some (net s es), some (.int s), some (esD es), some (.int w), some (nD (arr w es)), t5] = .ok ((arr w es).map fun i : Nat => DV.int (i : Int)) := seq_e (f := fun i : Nat => DV.int (i : Int)) (xs := arr w es) rfl
  have ll : ((arr w es).map fun i : Nat => DV.int (i : Int)).length ≤ sizeLine := by
    have := arr_len (v := w) (es := es)
    rw [List.length_map, sz_eq]
    omega
  have k2 : (gLc (gSeqI (gVar 4)) (gtName 5) (gB (gBin dEq (gBin dIx (gBin dIx (gVar 2) (gVar 5)) (gC (.int 0))) (gVar 3))) (gVar 5) [5]) [some (net s es), some (.int s), some (esD es), some (.int w), some (nD (arr w es)), t5] = .ok (nD (lea w es)) := by
    unfold nD
    rw [← flt_lea]
    refine ev_lc sq ll (lcLoop_flt2 fun i hi => lc_b (ρ1 := [some (net s es), some (.int s), some (esD es), some (.int w), some (nD (arr w es)), some (.int (i : Int))]) rfl (b_e ((bin_e ((bin_e ((bin_e rfl rfl).trans (ix_at rfl (arr_lt hi))) rfl).trans ix3_0) rfl).trans dEq_i)) rfl)
  have k3 : (gLc (gSeqI (gVar 4)) (gtName 5) (gB (gBin dEq (gBin dIx (gBin dIx (gVar 2) (gVar 5)) (gC (.int 1))) (gVar 3))) (gVar 5) [5]) [some (net s es), some (.int s), some (esD es), some (.int w), some (nD (arr w es)), t5] = .ok (nD (ent w es)) := by
    unfold nD
    rw [← flt_ent]
    refine ev_lc sq ll (lcLoop_flt2 fun i hi => lc_b (ρ1 := [some (net s es), some (.int s), some (esD es), some (.int w), some (nD (arr w es)), some (.int (i : Int))]) rfl (b_e ((bin_e ((bin_e ((bin_e rfl rfl).trans (ix_at rfl (arr_lt hi))) rfl).trans ix3_1) rfl).trans dEq_i)) rfl)
  have t1 : (gB (gBin dNe (gMeth "Network" "around" m_Network_around (gVar 0) (aCons (gVar 3) aNil)) (gVar 4))) [some (net s es), some (.int s), some (esD es), some (.int w), some (nD (arr w es)), t5] = .ok false := b_e ((bin_e ((meth_e rfl (by decide) (a1_e rfl)).trans (around_ok hl hv0 hv1)) rfl).trans ne_ns)
  have t2 : (gB (gBin dNe (gMeth "Network" "leaving" m_Network_leaving (gVar 0) (aCons (gVar 3) aNil)) (gLc (gSeqI (gVar 4)) (gtName 5) (gB (gBin dEq (gBin dIx (gBin dIx (gVar 2) (gVar 5)) (gC (.int 0))) (gVar 3))) (gVar 5) [5]))) [some (net s es), some (.int s), some (esD es), some (.int w), some (nD (arr w es)), t5] = .ok false := b_e ((bin_e ((meth_e rfl (by decide) (a1_e rfl)).trans (leaving_ok hl hv0 hv1)) k2).trans ne_ns)
  have t3' : (gB (gBin dNe (gMeth "Network" "entering" m_Network_entering (gVar 0) (aCons (gVar 3) aNil)) (gLc (gSeqI (gVar 4)) (gtName 5) (gB (gBin dEq (gBin dIx (gBin dIx (gVar 2) (gVar 5)) (gC (.int 1))) (gVar 3))) (gVar 5) [5]))) [some (net s es), some (.int s), some (esD es), some (.int w), some (nD (arr w es)), t5] = .ok false := b_e ((bin_e ((meth_e rfl (by decide) (a1_e rfl)).trans (entering_ok hl hv0 hv1)) k3).trans ne_ns)
  obtain ⟨ρ', f1, t5', e1⟩ := forG_list (g := fun i : Nat => DV.int (i : Int)) (tg := gtName 5) (b := oBody) 1000 (fun _ ρ => ∃ t5, ρ = [some (net s es), some (.int s), some (esD es), some (.int w), some (nD (arr w es)), t5]) (arr w es) [] [some (net s es), some (.int s), some (esD es), some (.int w), some (nD (arr w es)), t5] (by have := arr_len (v := w) (es := es); show 0 + _ ≤ _; omega) (fun i done ρ hi _ hρ => by
    obtain ⟨t5, rfl⟩ := hρ
    refine ⟨[some (net s es), some (.int s), some (esD es), some (.int w), some (nD (arr w es)), some (.int (i : Int))], [some (net s es), some (.int s), some (esD es), some (.int w), some (nD (arr w es)), some (.int (i : Int))], rfl, ?_, _, rfl⟩
    have x : gBin dIx (gVar 2) (gVar 5) [some (net s es), some (.int s), some (esD es), some (.int w), some (nD (arr w es)), some (.int (i : Int))] = .ok (eD (eAt es i)) := (bin_e rfl rfl).trans (ix_at rfl (arr_lt hi))
    have t : (gB (gBin dNe (gMeth "Network" "other_end" m_Network_other_end (gVar 0) (aCons (gVar 5) (aCons (gVar 3) aNil))) (gBin dSub (gBin dAdd (gBin dIx (gBin dIx (gVar 2) (gVar 5)) (gC (.int 0))) (gBin dIx (gBin dIx (gVar 2) (gVar 5)) (gC (.int 1)))) (gVar 3)))) [some (net s es), some (.int s), some (esD es), some (.int w), some (nD (arr w es)), some (.int (i : Int))] = .ok false := b_e ((bin_e ((meth_e rfl (by decide) (a2_e rfl rfl)).trans (other_ok (arr_lt hi))) ((bin_e ((bin_e ((bin_e x rfl).trans ix3_0) ((bin_e x rfl).trans ix3_1)).trans dAdd_i) rfl).trans dSub_i)).trans ne_ii)
    unfold oBody
    rw [ev_ifS t]
    rfl) ⟨t5, rfl⟩
  refine ⟨ρ', rfl, ?_, some (.int w), some (nD (arr w es)), t5', e1⟩
  unfold aBody
  rw [ev_seq s0, ev_skip t1, ev_skip t2, ev_skip t3']
  exact ev_for sq f1
theorem alike_ok {s : Int} {es : List Ed} (hl : es.length ≤ 1000) (h1 : 1 ≤ s) (h2 : s ≤ 1000) : m__law_alike [net s es, .int s, esD es] = .ok (.bl true) := by
  have st : startD 6 [net s es, .int s, esD es] = [some (net s es), some (.int s), some (esD es), none, none, none] := rfl
  have t : (gOr (gB (gBin dNe (gMeth "Network" "size" m_Network_size (gVar 0) aNil) (gVar 1))) (gB (gBin dNe (gMeth "Network" "edges" m_Network_edges (gVar 0) aNil) (gVar 2)))) [some (net s es), some (.int s), some (esD es), none, none, none] = .ok false := by
    rw [or_e (b_e ((bin_e ((meth_e rfl (by decide) (rfl : aNil [some (net s es), some (.int s), some (esD es), none, none, none] = .ok [])).trans size_ok) rfl).trans ne_ii)) (b_e ((bin_e ((meth_e rfl (by decide) (rfl : aNil [some (net s es), some (.int s), some (esD es), none, none, none] = .ok [])).trans edges_ok) rfl).trans ne_es))]
    rfl
  obtain ⟨ρ', f1, t3, t4, t5, e1⟩ := forG_rngB (tg := gtName 3) (b := aBody) s.toNat (AI s es) (fun v ρ hv h => a_turn hl (by omega) h) s.toNat 0 [some (net s es), some (.int s), some (esD es), none, none, none] (by omega) ⟨none, none, none, rfl⟩
  have s2 : gFor (gRng1 (aCons (gVar 1) aNil)) (gtName 3) aBody [some (net s es), some (.int s), some (esD es), none, none, none] = .nx ρ' := ev_for (rng1_e (i := s) (n := s.toNat) rfl (by omega) (by omega)) (by rw [rngD_eq]; exact f1)
  unfold m__law_alike runB b__law_alike
  rw [st, ev_skip t]
  show finB (gSeq (gFor _ _ aBody) _ _) = _
  rw [ev_seq s2]
  rfl
end M
end

/-! text N7 -/
section
set_option maxRecDepth 100000
set_option maxHeartbeats 4000000
namespace M
open PySem DL
theorem bad_none {s : Int} {e : Ed} (h : Ge s e) : bad s e = none := by
  obtain ⟨h1, h2, h3, h4, h5, h6, h7⟩ := h
  have b1 : bad1 s e = false := by
    unfold bad1
    rw [decide_eq_true h1, decide_eq_true h2, decide_eq_true h3, decide_eq_true h4, decide_eq_false h5]
    rfl
  have b2 : bad2 e = false := by
    unfold bad2
    rw [decide_eq_true h6, decide_eq_true h7]
    rfl
  unfold bad
  rw [b1, b2]
  rfl
theorem fstB_none {b : Nat → Option Str} : ∀ {n i : Nat}, (∀ k, i ≤ k → k < i + n → b k = none) → fstB b i n = none
  | 0, _, _ => rfl
  | n + 1, i, h => by
    unfold fstB
    rw [h i (by omega) (by omega)]
    exact fstB_none fun k h1 h2 => h k (by omega) (by omega)
theorem init_good {s : Int} {es : List Ed} (h1 : 1 ≤ s) (h2 : s ≤ 40) (hl : es.length ≤ 200) (hg : ∀ e ∈ es, Ge s e) : m_Network___init__ [.int s, esD es] = .ok (net s es) := by
  rw [init_ok (by omega)]
  unfold initR
  rw [decide_eq_true h1, decide_eq_true h2, if_pos (show (true && true) = true from rfl), decide_eq_false (by omega : ¬ 200 < (es.length : Int)), if_neg (by decide), fstB_none fun k _ hk => by
    unfold bdAt
    rw [getD_lt (by omega)]
    exact bad_none (hg _ (List.getElem_mem _))]
theorem setD_g {es : List Ed} {k : Int} {n : Nat} {x : Ed} (e : k = (n : Int)) (h : n < es.length) : setD (esD es) (.int k) (eD x) = .ok (esD (es.set n x)) := by
  subst e
  unfold setD
  simp only [List.length_map]
  rw [ixN_nat h]
  simp [List.map_set]
theorem eAt_mem {es : List Ed} {n : Nat} (h : n < es.length) : eAt es n ∈ es := by
  unfold eAt
  rw [getD_lt h]
  exact List.getElem_mem h
theorem with_ok {s k p : Int} {es : List Ed} (h1 : 1 ≤ s) (h2 : s ≤ 40) (hl : es.length ≤ 200) (hg : ∀ e ∈ es, Ge s e) (k0 : 0 ≤ k) (k1 : k < es.length) (p0 : 0 ≤ p) (p1 : p ≤ 1048576) : m_Network_with_price [net s es, .int k, .int p] = .ok (net s (es.set k.toNat ((eAt es k.toNat).1, (eAt es k.toNat).2.1, p))) := by
  have st : startD 7 [net s es, .int k, .int p] = [some (net s es), some (.int k), some (.int p), none, none, none, none] := rfl
  have hk : k.toNat < es.length := by omega
  have t0 : (gNot (gB (gChain dLe dLt (gC (.int 0)) (gVar 1) (gCB dLen (aCons (gFld "Network" "_edges" (gVar 0)) aNil))))) [some (net s es), some (.int k), some (.int p), none, none, none, none] = .ok false := by
    rw [not_e (b_e (chain_lt rfl rfl (fe_len rfl))), decide_eq_true k0, decide_eq_true k1]
    rfl
  have g : gBin dIx (gFld "Network" "_edges" (gVar 0)) (gVar 1) [some (net s es), some (.int k), some (.int p), none, none, none, none] = .ok (eD (eAt es k.toNat)) := (bin_e (f_edges rfl) rfl).trans (ix_at (by omega) hk)
  have s1 : (gAsg (gPure (gBin dIx (gFld "Network" "_edges" (gVar 0)) (gVar 1))) (gtTup [3, 4, 5])) [some (net s es), some (.int k), some (.int p), none, none, none, none] = .nx [some (net s es), some (.int k), some (.int p), some (.int (eAt es k.toNat).1), some (.int (eAt es k.toNat).2.1), some (.int (eAt es k.toNat).2.2), none] := by
    unfold gAsg
    rw [ev_pure, g]
    rfl
  obtain ⟨a1, a2, a3, a4, a5, _⟩ := hg _ (eAt_mem hk)
  have gn : Ge s ((eAt es k.toNat).1, (eAt es k.toNat).2.1, p) := ⟨a1, a2, a3, a4, a5, p0, p1⟩
  have s2 : (gDrop (gPure (gCB m_check_edge (aCons (gFld "Network" "_size" (gVar 0)) (aCons (eTup (aCons (gVar 3) (aCons (gVar 4) (aCons (gVar 2) aNil)))) (aCons (gVar 1) aNil)))))) [some (net s es), some (.int k), some (.int p), some (.int (eAt es k.toNat).1), some (.int (eAt es k.toNat).2.1), some (.int (eAt es k.toNat).2.2), none] = .nx [some (net s es), some (.int k), some (.int p), some (.int (eAt es k.toNat).1), some (.int (eAt es k.toNat).2.1), some (.int (eAt es k.toNat).2.2), none] := by
    refine drop_e (d := .non) ((cb3 (f_size rfl) (tup3 rfl rfl rfl) rfl).trans ((check_ok (e := ((eAt es k.toNat).1, (eAt es k.toNat).2.1, p))).trans ?_))
    rw [bad_none gn]
  have s3 : (gAsg (gPure (gCB dList (aCons (gFld "Network" "_edges" (gVar 0)) aNil))) (gtName 6)) [some (net s es), some (.int k), some (.int p), some (.int (eAt es k.toNat).1), some (.int (eAt es k.toNat).2.1), some (.int (eAt es k.toNat).2.2), none] = .nx [some (net s es), some (.int k), some (.int p), some (.int (eAt es k.toNat).1), some (.int (eAt es k.toNat).2.1), some (.int (eAt es k.toNat).2.2), some (esD es)] := set_e (i := 6) ((cb1 (f_edges rfl)).trans rfl)
  have s4 : (gSetI 6 (gVar 1) (gPure (eTup (aCons (gVar 3) (aCons (gVar 4) (aCons (gVar 2) aNil)))))) [some (net s es), some (.int k), some (.int p), some (.int (eAt es k.toNat).1), some (.int (eAt es k.toNat).2.1), some (.int (eAt es k.toNat).2.2), some (esD es)] = .nx [some (net s es), some (.int k), some (.int p), some (.int (eAt es k.toNat).1), some (.int (eAt es k.toNat).2.1), some (.int (eAt es k.toNat).2.2), some (esD (es.set k.toNat ((eAt es k.toNat).1, (eAt es k.toNat).2.1, p)))] := by
    have q : eTup (aCons (gVar 3) (aCons (gVar 4) (aCons (gVar 2) aNil))) [some (net s es), some (.int k), some (.int p), some (.int (eAt es k.toNat).1), some (.int (eAt es k.toNat).2.1), some (.int (eAt es k.toNat).2.2), some (esD es)] = .ok (eD ((eAt es k.toNat).1, (eAt es k.toNat).2.1, p)) := tup3 rfl rfl rfl
    unfold gSetI
    rw [ev_pure, q]
    show (match setD (esD es) (.int k) (eD ((eAt es k.toNat).1, (eAt es k.toNat).2.1, p)) with | .ok x' => _ | _ => _) = _
    rw [setD_g (n := k.toNat) (by omega) hk]
    rfl
  unfold m_Network_with_price runB b_Network_with_price
  rw [st, ev_skip t0, ev_seq s1, ev_seq s2, ev_seq s3, ev_seq s4, ret_e ((cb2 (f_size rfl) rfl).trans (init_good h1 h2 (by rw [List.length_set]; exact hl) fun e he => by
    rcases List.mem_or_eq_of_mem_set he with h | h
    · exact hg e h
    · rw [h]; exact gn))]
  rfl
theorem with_ex1 {s k p : Int} {es : List Ed} (h : ¬ (0 ≤ k ∧ k < es.length)) : m_Network_with_price [net s es, .int k, .int p] = .ex "BadEdge" (.int k) := by
  have st : startD 7 [net s es, .int k, .int p] = [some (net s es), some (.int k), some (.int p), none, none, none, none] := rfl
  have t0 : (gNot (gB (gChain dLe dLt (gC (.int 0)) (gVar 1) (gCB dLen (aCons (gFld "Network" "_edges" (gVar 0)) aNil))))) [some (net s es), some (.int k), some (.int p), none, none, none, none] = .ok true := by
    rw [not_e (b_e (chain_lt rfl rfl (fe_len rfl)))]
    by_cases c : 0 ≤ k
    · rw [decide_eq_false (fun z => h ⟨c, z⟩ : ¬ k < (es.length : Int)), Bool.and_false]
      rfl
    · rw [decide_eq_false c]
      rfl
  unfold m_Network_with_price runB b_Network_with_price
  rw [st, ev_stopE t0 (raise_i rfl)]
  rfl
theorem with_ex2 {s k p : Int} {es : List Ed} (hg : ∀ e ∈ es, Ge s e) (k0 : 0 ≤ k) (k1 : k < es.length) (hp : ¬ (0 ≤ p ∧ p ≤ 1048576)) : m_Network_with_price [net s es, .int k, .int p] = .ex "BadPrice" (.int k) := by
  have st : startD 7 [net s es, .int k, .int p] = [some (net s es), some (.int k), some (.int p), none, none, none, none] := rfl
  have hk : k.toNat < es.length := by omega
  have t0 : (gNot (gB (gChain dLe dLt (gC (.int 0)) (gVar 1) (gCB dLen (aCons (gFld "Network" "_edges" (gVar 0)) aNil))))) [some (net s es), some (.int k), some (.int p), none, none, none, none] = .ok false := by
    rw [not_e (b_e (chain_lt rfl rfl (fe_len rfl))), decide_eq_true k0, decide_eq_true k1]
    rfl
  have g : gBin dIx (gFld "Network" "_edges" (gVar 0)) (gVar 1) [some (net s es), some (.int k), some (.int p), none, none, none, none] = .ok (eD (eAt es k.toNat)) := (bin_e (f_edges rfl) rfl).trans (ix_at (by omega) hk)
  have s1 : (gAsg (gPure (gBin dIx (gFld "Network" "_edges" (gVar 0)) (gVar 1))) (gtTup [3, 4, 5])) [some (net s es), some (.int k), some (.int p), none, none, none, none] = .nx [some (net s es), some (.int k), some (.int p), some (.int (eAt es k.toNat).1), some (.int (eAt es k.toNat).2.1), some (.int (eAt es k.toNat).2.2), none] := by
    unfold gAsg
    rw [ev_pure, g]
    rfl
  obtain ⟨a1, a2, a3, a4, a5, _⟩ := hg _ (eAt_mem hk)
  have b1 : bad1 s ((eAt es k.toNat).1, (eAt es k.toNat).2.1, p) = false := by
    unfold bad1
    rw [decide_eq_true a1, decide_eq_true a2, decide_eq_true a3, decide_eq_true a4, decide_eq_false a5]
    rfl
  have b2 : bad2 ((eAt es k.toNat).1, (eAt es k.toNat).2.1, p) = true := by
    unfold bad2
    show (!(decide (0 ≤ p) && decide (p ≤ 1048576))) = true
    by_cases c : 0 ≤ p
    · rw [decide_eq_false (fun z => hp ⟨c, z⟩ : ¬ p ≤ 1048576), Bool.and_false]
      rfl
    · rw [decide_eq_false c]
      rfl
  have s2 : (gDrop (gPure (gCB m_check_edge (aCons (gFld "Network" "_size" (gVar 0)) (aCons (eTup (aCons (gVar 3) (aCons (gVar 4) (aCons (gVar 2) aNil)))) (aCons (gVar 1) aNil)))))) [some (net s es), some (.int k), some (.int p), some (.int (eAt es k.toNat).1), some (.int (eAt es k.toNat).2.1), some (.int (eAt es k.toNat).2.2), none] = .ex "BadPrice" (.int k) := by
    refine drop_x ((cb3 (f_size rfl) (tup3 rfl rfl rfl) rfl).trans ((check_ok (e := ((eAt es k.toNat).1, (eAt es k.toNat).2.1, p))).trans ?_))
    unfold bad
    rw [b1, b2]
    rfl
  unfold m_Network_with_price runB b_Network_with_price
  rw [st, ev_skip t0, ev_seq s1, ev_seqE s2]
  rfl
/-! what is refused -/
abbrev rf (a b c : Bool) (d : DV) : DV := .tup [.lst [.bl a, .bl b, .bl c], d]
def rB : GS := (gIfS (gB (gBin dEq (gVar 0) (gC (.int 0)))) (gDrop (gPure (gMeth "Network" "around" m_Network_around (gVar 1) (aCons (gVar 2) aNil)))) (gIfS (gB (gBin dEq (gVar 0) (gC (.int 1)))) (gDrop (gPure (gMeth "Network" "leaving" m_Network_leaving (gVar 1) (aCons (gVar 2) aNil)))) (gIfS (gB (gBin dEq (gVar 0) (gC (.int 2)))) (gDrop (gPure (gMeth "Network" "entering" m_Network_entering (gVar 1) (aCons (gVar 2) aNil)))) (gDrop (gPure (gMeth "Network" "with_price" m_Network_with_price (gVar 1) (aCons (gVar 2) (aCons (gVar 3) aNil))))))))
theorem ref_ex {w k p : Int} {nt : DV} {c : Str} {i : Int} (h : rB [some (.int w), some nt, some (.int k), some (.int p), none] = .ex c (.int i)) : m__law_refused [.int w, nt, .int k, .int p] = .ok (rf (decide (c = "BadVertex")) (decide (c = "BadEdge")) (decide (c = "BadPrice")) (.int i)) := by
  have st : startD 5 [.int w, nt, .int k, .int p] = [some (.int w), some nt, some (.int k), some (.int p), none] := rfl
  have h : (gIfS (gB (gBin dEq (gVar 0) (gC (.int 0)))) (gDrop (gPure (gMeth "Network" "around" m_Network_around (gVar 1) (aCons (gVar 2) aNil)))) (gIfS (gB (gBin dEq (gVar 0) (gC (.int 1)))) (gDrop (gPure (gMeth "Network" "leaving" m_Network_leaving (gVar 1) (aCons (gVar 2) aNil)))) (gIfS (gB (gBin dEq (gVar 0) (gC (.int 2)))) (gDrop (gPure (gMeth "Network" "entering" m_Network_entering (gVar 1) (aCons (gVar 2) aNil)))) (gDrop (gPure (gMeth "Network" "with_price" m_Network_with_price (gVar 1) (aCons (gVar 2) (aCons (gVar 3) aNil)))))))) [some (.int w), some nt, some (.int k), some (.int p), none] = .ex c (.int i) := h
  unfold m__law_refused runB b__law_refused
  rw [st, ev_seqR (d := rf (decide (c = "BadVertex")) (decide (c = "BadEdge")) (decide (c = "BadPrice")) (.int i)) (ρ' := [none, none, none, none, none]) (by
    unfold gTry
    rw [h]
    rfl)]
  rfl
theorem way_e {w : Int} {z : Int} {ρ : EnvD} (h : lk ρ 0 = .ok (.int w)) : gB (gBin dEq (gVar 0) (gC (.int z))) ρ = .ok (decide (w = z)) := b_e ((bin_e h rfl).trans dEq_i)
theorem ref_0 {s k p : Int} {es : List Ed} (h : ¬ (0 ≤ k ∧ k < s)) : m__law_refused [.int 0, net s es, .int k, .int p] = .ok (rf true false false (.int k)) := by
  refine ref_ex (c := "BadVertex") ?_
  unfold rB
  rw [ev_ifS (way_e rfl), if_pos (by decide)]
  exact drop_x ((meth_e rfl (by decide) (a1_e rfl)).trans (around_ex h))
theorem ref_1 {s k p : Int} {es : List Ed} (h : ¬ (0 ≤ k ∧ k < s)) : m__law_refused [.int 1, net s es, .int k, .int p] = .ok (rf true false false (.int k)) := by
  refine ref_ex (c := "BadVertex") ?_
  unfold rB
  rw [ev_ifS (way_e rfl), if_neg (by decide), ev_ifS (way_e rfl), if_pos (by decide)]
  exact drop_x ((meth_e rfl (by decide) (a1_e rfl)).trans (leaving_ex h))
theorem ref_2 {s k p : Int} {es : List Ed} (h : ¬ (0 ≤ k ∧ k < s)) : m__law_refused [.int 2, net s es, .int k, .int p] = .ok (rf true false false (.int k)) := by
  refine ref_ex (c := "BadVertex") ?_
  unfold rB
  rw [ev_ifS (way_e rfl), if_neg (by decide), ev_ifS (way_e rfl), if_neg (by decide), ev_ifS (way_e rfl), if_pos (by decide)]
  exact drop_x ((meth_e rfl (by decide) (a1_e rfl)).trans (entering_ex h))
theorem ref_3 {s k p : Int} {es : List Ed} {c : Str} (h : m_Network_with_price [net s es, .int k, .int p] = .ex c (.int k)) : m__law_refused [.int 3, net s es, .int k, .int p] = .ok (rf (decide (c = "BadVertex")) (decide (c = "BadEdge")) (decide (c = "BadPrice")) (.int k)) := by
  refine ref_ex (c := c) ?_
  unfold rB
  rw [ev_ifS (way_e rfl), if_neg (by decide), ev_ifS (way_e rfl), if_neg (by decide), ev_ifS (way_e rfl), if_neg (by decide)]
  exact drop_x ((meth_e rfl (by decide) (a2_e rfl rfl)).trans h)
theorem ne_rf {a b c : Bool} {i : Int} : dNe (rf a b c (.int i)) (rf a b c (.int i)) = .ok (.bl false) := by
  unfold dNe
  rw [if_pos (by rfl)]
  simp [eqv, py, pys, PyData.eqv, PyData.eqvAll]
end M
end

/-! text N8 -/
section
set_option maxRecDepth 100000
set_option maxHeartbeats 4000000
namespace M
open PySem DL
/-! what is shown of a size and edges -/
def Sm (e : Ed) : Prop := e.1.natAbs ≤ 10000000 ∧ e.2.1.natAbs ≤ 10000000 ∧ e.2.2.natAbs ≤ 10000000
theorem int_short {i : Int} (h : i.natAbs ≤ 10000000) : (PyData.int i).leavesShort 13 = true ∧ (PyData.int i).weight ≤ 30 ∧ (PyData.int i).showable = true := by
  have s1 := PyData.shown_int_le (i := i) (by omega)
  have l1 : i.natAbs.log2 < 25 := by
    by_cases z : i.natAbs = 0
    · rw [z]; decide
    · exact (Nat.log2_lt z).mpr (Nat.lt_of_le_of_lt h (by decide))
  refine ⟨?_, ?_, ?_⟩
  · simp [PyData.leavesShort, s1]
  · simp [PyData.weight]
    split <;> omega
  · simp [PyData.showable]
    omega
theorem ed_short {e : Ed} (h : Sm e) : (py (eD e)).leavesShort 13 = true ∧ (py (eD e)).weight ≤ 100 ∧ (py (eD e)).showable = true := by
  obtain ⟨a, b, c⟩ := h
  obtain ⟨a1, a2, a3⟩ := int_short a
  obtain ⟨b1, b2, b3⟩ := int_short b
  obtain ⟨c1, c2, c3⟩ := int_short c
  refine ⟨?_, ?_, ?_⟩
  · show PyData.leavesShortAll 13 [.int e.1, .int e.2.1, .int e.2.2] = true
    simp only [PyData.leavesShortAll, a1, b1, c1, Bool.and_true]
  · show PyData.weightAll [.int e.1, .int e.2.1, .int e.2.2] ≤ 100
    simp only [PyData.weightAll]
    omega
  · show PyData.showableAll [.int e.1, .int e.2.1, .int e.2.2] = true
    simp only [PyData.showableAll, a3, b3, c3, Bool.and_true]
theorem es_short : ∀ {es : List Ed}, (∀ e ∈ es, Sm e) → PyData.leavesShortAll 13 (pys (es.map eD)) = true ∧ PyData.weightAll (pys (es.map eD)) ≤ 101 * es.length ∧ PyData.showableAll (pys (es.map eD)) = true
  | [], _ => by simp [pys, PyData.leavesShortAll, PyData.weightAll, PyData.showableAll]
  | w :: ws, h => by
    obtain ⟨a1, a2, a3⟩ := ed_short (h w List.mem_cons_self)
    obtain ⟨b1, b2, b3⟩ := es_short (es := ws) fun x hx => h x (List.mem_cons_of_mem _ hx)
    have e : pys ((w :: ws).map eD) = py (eD w) :: pys (ws.map eD) := rfl
    rw [e]
    refine ⟨?_, ?_, ?_⟩
    · unfold PyData.leavesShortAll
      rw [a1, b1]
      rfl
    · unfold PyData.weightAll
      rw [List.length_cons]
      omega
    · unfold PyData.showableAll
      rw [a3, b3]
      rfl
abbrev rowD (z : Int × List Ed) : DV := .tup [.int z.1, esD z.2]
theorem eqoks_es18 : ∀ {es : List Ed}, eqoks (es.map eD) 18 = true
  | [] => rfl
  | e :: es => by
    show (eqok (eD e) 18 && eqoks (es.map eD) 18) = true
    rw [eqoks_es18 (es := es)]
    rfl
theorem ok_tup {ts : List Str} (h : ∀ t ∈ ts, PyData.strOk t = true) : PyData.strOk (tupleText ts) = true := by
  have j : ∀ {ts : List Str}, (∀ t ∈ ts, PyData.strOk t = true) → PyData.strOk (Str.join ", " ts) = true := by
    intro ts h
    induction ts with
    | nil => decide +kernel
    | cons t ts ih =>
      cases ts with
      | nil => exact h t List.mem_cons_self
      | cons u us =>
        show PyData.strOk (t ++ ", " ++ Str.join ", " (u :: us)) = true
        exact ok_app (ok_app (h t List.mem_cons_self) (by decide +kernel)) (ih fun v hv => h v (List.mem_cons_of_mem _ hv))
  unfold tupleText
  refine ok_app (ok_app (by decide +kernel) (j h)) ?_
  split <;> decide +kernel
theorem ok_all : ∀ {es : List Ed}, ∀ t ∈ PyData.shownAll (pys (es.map eD)), PyData.strOk t = true
  | [], t, h => by simp [pys, PyData.shownAll] at h
  | e :: es, t, h => by
    have q : PyData.shownAll (pys ((e :: es).map eD)) = (py (eD e)).shown :: PyData.shownAll (pys (es.map eD)) := by
      show PyData.shownAll (py (eD e) :: pys (es.map eD)) = _
      rw [PyData.shownAll]
    rw [q] at h
    rcases List.mem_cons.mp h with h | h
    · subst h
      have z : (py (eD e)).shown = tupleText [PyData.shown (.int e.1), PyData.shown (.int e.2.1), PyData.shown (.int e.2.2)] := by simp [py, pys, PyData.shown, PyData.shownAll]
      rw [z]
      refine ok_tup fun t ht => ?_
      simp at ht
      rcases ht with ht | ht | ht <;> rw [ht] <;> exact ok_int
    · exact ok_all (es := es) t h
theorem row_shown {z : Int × List Ed} : PyData.strOk (py (rowD z)).shown = true := by
  have e : (py (rowD z)).shown = tupleText [PyData.shown (.int z.1), textFrom 0 "[" (PyData.shownAll (pys (z.2.map eD))) ++ "]"] := by
    simp [py, pys, PyData.shown, PyData.shownAll, listText]
  rw [e]
  refine ok_tup fun t ht => ?_
  simp at ht
  rcases ht with ht | ht
  · rw [ht]; exact ok_int
  · rw [ht]
    exact ok_app (ok_from (by decide +kernel) ok_all) (by decide +kernel)
theorem row_repr {z : Int × List Ed} (h1 : z.1.natAbs ≤ 10000000) (h2 : ∀ e ∈ z.2, Sm e) (hl : z.2.length ≤ 1000) : dRepr [rowD z] = .ok (.str (py (rowD z)).shown) := by
  obtain ⟨a1, a2, a3⟩ := int_short h1
  obtain ⟨b1, b2, b3⟩ := es_short h2
  have lL : PyData.leavesShort 13 (.list (pys (z.2.map eD))) = true := by
    unfold PyData.leavesShort
    exact b1
  have wL : PyData.weight (.list (pys (z.2.map eD))) ≤ 101000 := by
    unfold PyData.weight
    omega
  have sL : PyData.showable (.list (pys (z.2.map eD))) = true := by
    unfold PyData.showable
    exact b3
  have l : (py (rowD z)).leavesShort 13 = true := by
    show PyData.leavesShortAll 13 [.int z.1, .list (pys (z.2.map eD))] = true
    simp only [PyData.leavesShortAll, a1, lL, Bool.and_true]
  have w : (py (rowD z)).weight ≤ 2 ^ 20 := by
    have : (200000 : Nat) ≤ 2 ^ 20 := by decide
    show PyData.weightAll [.int z.1, .list (pys (z.2.map eD))] ≤ 2 ^ 20
    simp only [PyData.weightAll]
    omega
  have f := PyData.shown_fits (B := 13) (by decide) (by decide) l w
  have s : (py (rowD z)).showable = true := by
    show PyData.showableAll [.int z.1, .list (pys (z.2.map eD))] = true
    simp only [PyData.showableAll, a3, sL, Bool.and_true]
  have q : eqok (rowD z) 20 = true := by
    show (eqok (.int z.1) 19 && (eqok (esD z.2) 19 && true)) = true
    have : eqok (esD z.2) 19 = true := eqoks_es18
    rw [this]
    rfl
  unfold dRepr
  dsimp only
  rw [if_pos]
  rw [s, q, decide_eq_true f]
  rfl
end M
end

/-! text N9 -/
section
set_option maxRecDepth 100000
set_option maxHeartbeats 4000000
namespace M
open PySem DL
theorem cut_to {α : Type} {g : α → DV} {xs : List α} {z : Int} (h : 0 ≤ z) : cutD (xs.map g) none (some z) = (xs.take z.toNat).map g := by
  have e : z = ((z.toNat : Nat) : Int) := by omega
  rw [e, cut_front, Int.toNat_natCast, List.map_take]
theorem cut_from {α : Type} {g : α → DV} {xs : List α} {z : Int} (h : 0 ≤ z) : cutD (xs.map g) (some z) none = (xs.drop z.toNat).map g := by
  have e : z = ((z.toNat : Nat) : Int) := by omega
  unfold cutD
  rw [e, HT.sIx_nat, HT.sIx_none, Int.toNat_natCast, List.map_drop]
  by_cases c : z.toNat ≤ (xs.map g).length
  · rw [Nat.min_eq_left c, List.take_of_length_le (by rw [List.length_drop]; omega)]
  · rw [Nat.min_eq_right (by omega), List.drop_length, List.drop_of_length_le (by omega)]
    simp
theorem slT_e {α : Type} {g : α → DV} {xs : List α} {a b : GE} {ρ : EnvD} {z : Int} (h1 : a ρ = .ok (.lst (xs.map g))) (h2 : b ρ = .ok (.int z)) (h : 0 ≤ z) : gSl a gNoPart (gPart b) ρ = .ok (.lst ((xs.take z.toNat).map g)) := by
  have e : gSl a gNoPart (gPart b) ρ = .ok (.lst (cutD (xs.map g) none (some z))) := by
    unfold gSl gNoPart gPart
    rw [h1]
    dsimp only [Rs.bind]
    rw [h2]
    rfl
  rw [e, cut_to h]
theorem slF_e {α : Type} {g : α → DV} {xs : List α} {a b : GE} {ρ : EnvD} {z : Int} (h1 : a ρ = .ok (.lst (xs.map g))) (h2 : b ρ = .ok (.int z)) (h : 0 ≤ z) : gSl a (gPart b) gNoPart ρ = .ok (.lst ((xs.drop z.toNat).map g)) := by
  have e : gSl a (gPart b) gNoPart ρ = .ok (.lst (cutD (xs.map g) (some z) none)) := by
    unfold gSl gNoPart gPart
    rw [h1]
    dsimp only [Rs.bind]
    rw [h2]
    rfl
  rw [e, cut_from h]
theorem cat_e {α : Type} {g : α → DV} {xs ys : List α} (h : xs.length + ys.length ≤ 100000) : dAdd (.lst (xs.map g)) (.lst (ys.map g)) = .ok (.lst ((xs ++ ys).map g)) := by
  have : (xs.map g).length + (ys.map g).length ≤ sizeLine := by rw [List.length_map, List.length_map, sz_eq]; omega
  show (match (match (Rs.stuck : Rs DV) with | .stuck => (match dCat (.lst (xs.map g)) (.lst (ys.map g)) with | .stuck => dCatS (.lst (xs.map g)) (.lst (ys.map g)) | r => r) | r => r) with | r => r) = _
  simp only [dCat, this, if_true]
  simp [List.map_append]
theorem lst2 {a b : GE} {ρ : EnvD} {x y : DV} (h1 : a ρ = .ok x) (h2 : b ρ = .ok y) : eLst (aCons a (aCons b aNil)) ρ = .ok (.lst [x, y]) := by
  rw [ev_lst, ev_cons, h1, ev_cons, h2]
  show (if 0 + 1 + 1 ≤ sizeLine then _ else _) = _
  rw [if_pos (by decide)]
theorem lst3 {a b c : GE} {ρ : EnvD} {x y z : DV} (h1 : a ρ = .ok x) (h2 : b ρ = .ok y) (h3 : c ρ = .ok z) : eLst (aCons a (aCons b (aCons c aNil))) ρ = .ok (.lst [x, y, z]) := by
  rw [ev_lst, ev_cons, h1, ev_cons, h2, ev_cons, h3]
  show (if 0 + 1 + 1 + 1 ≤ sizeLine then _ else _) = _
  rw [if_pos (by decide)]
theorem lst4 {a b c d : GE} {ρ : EnvD} {x y z u : DV} (h1 : a ρ = .ok x) (h2 : b ρ = .ok y) (h3 : c ρ = .ok z) (h4 : d ρ = .ok u) : eLst (aCons a (aCons b (aCons c (aCons d aNil)))) ρ = .ok (.lst [x, y, z, u]) := by
  rw [ev_lst, ev_cons, h1, ev_cons, h2, ev_cons, h3, ev_cons, h4]
  show (if 0 + 1 + 1 + 1 + 1 ≤ sizeLine then _ else _) = _
  rw [if_pos (by decide)]
theorem one_e {α : Type} {g : α → DV} {x : α} {a : GE} {ρ : EnvD} (h : a ρ = .ok (g x)) : eLst (aCons a aNil) ρ = .ok (.lst ([x].map g)) := by
  rw [ev_lst, ev_cons, h]
  show (if 0 + 1 ≤ sizeLine then _ else _) = _
  rw [if_pos (by decide)]
  rfl
theorem rep_e {x : Ed} {n : Nat} (h : n ≤ 1000) : dRep (.lst ([x].map eD)) (.int (n : Int)) = .ok (esD (List.replicate n x)) := by
  unfold dRep
  dsimp only
  rw [if_pos ⟨by rw [List.length_map, Int.toNat_natCast, sz_eq]; show 1 * n ≤ _; omega, by omega, by omega⟩, Int.toNat_natCast]
  congr 2
  induction n with
  | zero => rfl
  | succ n ih =>
    rw [List.replicate_succ, List.flatten_cons, ih (by omega), List.replicate_succ]
    rfl
/-- what the rows are -/
def Rw (z : Int × List Ed) : Prop := z.1.natAbs ≤ 10000000 ∧ z.2.length ≤ 900 ∧ ∀ e ∈ z.2, Sm e
section
variable {ds : List Int} {s : Int} {es bs : List Ed} {rs : List (Int × List Ed)} {w j : Nat} {t4 t6 t7 t8 t9 t10 t11 : Option DV}
def jB : GS := (gSeq (gAsg (gPure (gBin dSub (gCB m__law_mix (aCons (gVar 0) (aCons (gBin dAdd (gBin dAdd (gC (.int 30)) (gBin dMul (gC (.int 5)) (gVar 4))) (gVar 6)) (aCons (gBin dAdd (gVar 1) (gC (.int 3))) aNil)))) (gC (.int 1)))) (gtName 7)) (gSeq (gAsg (gPure (gBin dIx (eLst (aCons (gVar 7) (aCons (gBin dSub (gCB m__law_mix (aCons (gVar 0) (aCons (gBin dAdd (gBin dAdd (gC (.int 31)) (gBin dMul (gC (.int 5)) (gVar 4))) (gVar 6)) (aCons (gBin dAdd (gVar 1) (gC (.int 3))) aNil)))) (gC (.int 1))) aNil))) (gCB m__law_mix (aCons (gVar 0) (aCons (gBin dAdd (gBin dAdd (gC (.int 32)) (gBin dMul (gC (.int 5)) (gVar 4))) (gVar 6)) (aCons (gC (.int 2)) aNil)))))) (gtName 8)) (gSeq (gAsg (gPure (eLst (aCons (gC (.int 3)) (aCons (gBin dSub (gUn dNeg (gC (.int 1))) (gCB m__law_mix (aCons (gVar 0) (aCons (gBin dAdd (gC (.int 33)) (gVar 4)) (aCons (gC (.int 9)) aNil))))) (aCons (gBin dAdd (gC (.int 1048577)) (gCB m__law_mix (aCons (gVar 0) (aCons (gBin dAdd (gC (.int 33)) (gVar 4)) (aCons (gC (.int 9)) aNil))))) (aCons (gC (.int 1048576)) aNil)))))) (gtName 9)) (gSeq (gAsg (gPure (eTup (aCons (gVar 7) (aCons (gVar 8) (aCons (gBin dIx (gVar 9) (gCB m__law_mix (aCons (gVar 0) (aCons (gBin dAdd (gBin dAdd (gC (.int 34)) (gBin dMul (gC (.int 5)) (gVar 4))) (gVar 6)) (aCons (gC (.int 4)) aNil))))) aNil))))) (gtName 10)) (gSeq (gAsg (gPure (gCB m__law_mix (aCons (gVar 0) (aCons (gBin dAdd (gBin dAdd (gC (.int 35)) (gBin dMul (gC (.int 5)) (gVar 4))) (gVar 6)) (aCons (gBin dAdd (gCB dLen (aCons (gVar 5) aNil)) (gC (.int 1))) aNil))))) (gtName 11)) (gAsg (gPure (gBin dAdd (gBin dAdd (gSl (gVar 5) gNoPart (gPart (gVar 11))) (eLst (aCons (gVar 10) aNil))) (gSl (gVar 5) (gPart (gVar 11)) gNoPart))) (gtName 5)))))))
def JI (ds : List Int) (s : Int) (es : List Ed) (rs : List (Int × List Ed)) (t4 : Option DV) (n0 : Nat) (j : Nat) (ρ : EnvD) : Prop := ∃ (bs : List Ed) (t6 t7 t8 t9 t10 t11 : Option DV), ρ = [some (di ds), some (.int s), some (esD es), some (.lst (rs.map rowD)), t4, some (esD bs), t6, t7, t8, t9, t10, t11] ∧ bs.length = n0 + j ∧ ∀ e ∈ bs, Sm e
theorem mixS {k m : Int} (hd : Ds ds) (hk : 0 ≤ k) (hm : 0 < m) (h2 : m ≤ 1000) {a b : GE} {ρ : EnvD} (e0 : lk ρ 0 = .ok (di ds)) (e1 : a ρ = .ok (.int k)) (e2 : b ρ = .ok (.int m)) : ∃ v : Int, 0 ≤ v ∧ v < m ∧ gCB m__law_mix (aCons (gVar 0) (aCons a (aCons b aNil))) ρ = .ok (.int v) := by
  obtain ⟨v, v0, v1, e⟩ := mix_ok hd hk hm
  exact ⟨v, v0, v1, (cb3 e0 e1 e2).trans e⟩
theorem j_turn {ρ : EnvD} {n0 : Nat} (hd : Ds ds) (h1 : 1 ≤ s) (h2 : s ≤ 40) (hn : n0 ≤ 500) (hj : j < 2) (h : JI ds s es rs (some (.int ((0 : Int) + (w : Int)))) n0 j ρ) : ∃ ρ1 ρ2, gtName 6 (.int ((0 : Int) + (j : Int))) ρ = .ok ρ1 ∧ jB ρ1 = .nx ρ2 ∧ JI ds s es rs (some (.int ((0 : Int) + (w : Int)))) n0 (j + 1) ρ2 := by
  obtain ⟨bs, t6, t7, t8, t9, t10, t11, rfl, hb, hs⟩ := h
  refine ⟨[some (di ds), some (.int s), some (esD es), some (.lst (rs.map rowD)), some (.int ((0 : Int) + (w : Int))), some (esD bs), some (.int ((0 : Int) + (j : Int))), t7, t8, t9, t10, t11], ?_⟩
  have idx : ∀ (c : Int) (ρ : EnvD), lk ρ 4 = .ok (.int ((0 : Int) + (w : Int))) → lk ρ 6 = .ok (.int ((0 : Int) + (j : Int))) → gBin dAdd (gBin dAdd (gC (.int c)) (gBin dMul (gC (.int 5)) (gVar 4))) (gVar 6) ρ = .ok (.int (c + 5 * ((0 : Int) + (w : Int)) + ((0 : Int) + (j : Int)))) := fun c ρ g1 g2 => (bin_e ((bin_e rfl ((bin_e rfl g1).trans (dMul_i (mulT (by decide))))).trans dAdd_i) g2).trans dAdd_i
  have s3 : ∀ (ρ : EnvD), lk ρ 1 = .ok (.int s) → gBin dAdd (gVar 1) (gC (.int 3)) ρ = .ok (.int (s + 3)) := fun ρ g => (bin_e g rfl).trans dAdd_i
  obtain ⟨u, u0, u1, eu⟩ := mixS (ρ := [some (di ds), some (.int s), some (esD es), some (.lst (rs.map rowD)), some (.int ((0 : Int) + (w : Int))), some (esD bs), some (.int ((0 : Int) + (j : Int))), t7, t8, t9, t10, t11]) hd (k := 30 + 5 * ((0 : Int) + (w : Int)) + ((0 : Int) + (j : Int))) (m := s + 3) (by omega) (by omega) (by omega) rfl (idx 30 _ rfl rfl) (s3 _ rfl)
  have q0 : (gAsg (gPure (gBin dSub (gCB m__law_mix (aCons (gVar 0) (aCons (gBin dAdd (gBin dAdd (gC (.int 30)) (gBin dMul (gC (.int 5)) (gVar 4))) (gVar 6)) (aCons (gBin dAdd (gVar 1) (gC (.int 3))) aNil)))) (gC (.int 1)))) (gtName 7)) [some (di ds), some (.int s), some (esD es), some (.lst (rs.map rowD)), some (.int ((0 : Int) + (w : Int))), some (esD bs), some (.int ((0 : Int) + (j : Int))), t7, t8, t9, t10, t11] = .nx [some (di ds), some (.int s), some (esD es), some (.lst (rs.map rowD)), some (.int ((0 : Int) + (w : Int))), some (esD bs), some (.int ((0 : Int) + (j : Int))), some (.int (u - 1)), t8, t9, t10, t11] := set_e (i := 7) ((bin_e eu rfl).trans dSub_i)
  obtain ⟨v, v0, v1, ev⟩ := mixS (ρ := [some (di ds), some (.int s), some (esD es), some (.lst (rs.map rowD)), some (.int ((0 : Int) + (w : Int))), some (esD bs), some (.int ((0 : Int) + (j : Int))), some (.int (u - 1)), t8, t9, t10, t11]) hd (k := 31 + 5 * ((0 : Int) + (w : Int)) + ((0 : Int) + (j : Int))) (m := s + 3) (by omega) (by omega) (by omega) rfl (idx 31 _ rfl rfl) (s3 _ rfl)
  obtain ⟨c, c0, c1, ec⟩ := mixS (ρ := [some (di ds), some (.int s), some (esD es), some (.lst (rs.map rowD)), some (.int ((0 : Int) + (w : Int))), some (esD bs), some (.int ((0 : Int) + (j : Int))), some (.int (u - 1)), t8, t9, t10, t11]) hd (k := 32 + 5 * ((0 : Int) + (w : Int)) + ((0 : Int) + (j : Int))) (m := 2) (b := gC (.int 2)) (by omega) (by omega) (by omega) rfl (idx 32 _ rfl rfl) rfl
  obtain ⟨y, yb, q1⟩ : ∃ y : Int, y.natAbs ≤ 100 ∧ (gAsg (gPure (gBin dIx (eLst (aCons (gVar 7) (aCons (gBin dSub (gCB m__law_mix (aCons (gVar 0) (aCons (gBin dAdd (gBin dAdd (gC (.int 31)) (gBin dMul (gC (.int 5)) (gVar 4))) (gVar 6)) (aCons (gBin dAdd (gVar 1) (gC (.int 3))) aNil)))) (gC (.int 1))) aNil))) (gCB m__law_mix (aCons (gVar 0) (aCons (gBin dAdd (gBin dAdd (gC (.int 32)) (gBin dMul (gC (.int 5)) (gVar 4))) (gVar 6)) (aCons (gC (.int 2)) aNil)))))) (gtName 8)) [some (di ds), some (.int s), some (esD es), some (.lst (rs.map rowD)), some (.int ((0 : Int) + (w : Int))), some (esD bs), some (.int ((0 : Int) + (j : Int))), some (.int (u - 1)), t8, t9, t10, t11] = .nx [some (di ds), some (.int s), some (esD es), some (.lst (rs.map rowD)), some (.int ((0 : Int) + (w : Int))), some (esD bs), some (.int ((0 : Int) + (j : Int))), some (.int (u - 1)), some (.int y), t9, t10, t11] := by
    have l : (eLst (aCons (gVar 7) (aCons (gBin dSub (gCB m__law_mix (aCons (gVar 0) (aCons (gBin dAdd (gBin dAdd (gC (.int 31)) (gBin dMul (gC (.int 5)) (gVar 4))) (gVar 6)) (aCons (gBin dAdd (gVar 1) (gC (.int 3))) aNil)))) (gC (.int 1))) aNil))) [some (di ds), some (.int s), some (esD es), some (.lst (rs.map rowD)), some (.int ((0 : Int) + (w : Int))), some (esD bs), some (.int ((0 : Int) + (j : Int))), some (.int (u - 1)), t8, t9, t10, t11] = .ok (.lst [.int (u - 1), .int (v - 1)]) := lst2 rfl ((bin_e ev rfl).trans dSub_i)
    have hc : c = 0 ∨ c = 1 := by omega
    rcases hc with z | z <;> subst z
    · exact ⟨u - 1, by omega, set_e (i := 8) ((bin_e l ec).trans rfl)⟩
    · exact ⟨v - 1, by omega, set_e (i := 8) ((bin_e l ec).trans rfl)⟩
  have i33 : ∀ (ρ : EnvD), lk ρ 4 = .ok (.int ((0 : Int) + (w : Int))) → gBin dAdd (gC (.int 33)) (gVar 4) ρ = .ok (.int (33 + ((0 : Int) + (w : Int)))) := fun ρ g => (bin_e rfl g).trans dAdd_i
  obtain ⟨n, n0', n1, en⟩ := mixS (ρ := [some (di ds), some (.int s), some (esD es), some (.lst (rs.map rowD)), some (.int ((0 : Int) + (w : Int))), some (esD bs), some (.int ((0 : Int) + (j : Int))), some (.int (u - 1)), some (.int y), t9, t10, t11]) hd (k := 33 + ((0 : Int) + (w : Int))) (m := 9) (b := gC (.int 9)) (by omega) (by omega) (by omega) rfl (i33 _ rfl) rfl
  have q2 : (gAsg (gPure (eLst (aCons (gC (.int 3)) (aCons (gBin dSub (gUn dNeg (gC (.int 1))) (gCB m__law_mix (aCons (gVar 0) (aCons (gBin dAdd (gC (.int 33)) (gVar 4)) (aCons (gC (.int 9)) aNil))))) (aCons (gBin dAdd (gC (.int 1048577)) (gCB m__law_mix (aCons (gVar 0) (aCons (gBin dAdd (gC (.int 33)) (gVar 4)) (aCons (gC (.int 9)) aNil))))) (aCons (gC (.int 1048576)) aNil)))))) (gtName 9)) [some (di ds), some (.int s), some (esD es), some (.lst (rs.map rowD)), some (.int ((0 : Int) + (w : Int))), some (esD bs), some (.int ((0 : Int) + (j : Int))), some (.int (u - 1)), some (.int y), t9, t10, t11] = .nx [some (di ds), some (.int s), some (esD es), some (.lst (rs.map rowD)), some (.int ((0 : Int) + (w : Int))), some (esD bs), some (.int ((0 : Int) + (j : Int))), some (.int (u - 1)), some (.int y), some (.lst [.int 3, .int (-1 - n), .int (1048577 + n), .int 1048576]), t10, t11] := by
    refine set_e (i := 9) ?_
    have b1 : gBin dSub (gUn dNeg (gC (.int 1))) (gCB m__law_mix (aCons (gVar 0) (aCons (gBin dAdd (gC (.int 33)) (gVar 4)) (aCons (gC (.int 9)) aNil)))) [some (di ds), some (.int s), some (esD es), some (.lst (rs.map rowD)), some (.int ((0 : Int) + (w : Int))), some (esD bs), some (.int ((0 : Int) + (j : Int))), some (.int (u - 1)), some (.int y), t9, t10, t11] = .ok (.int (-1 - n)) := (bin_e (rfl : gUn dNeg (gC (.int 1)) [some (di ds), some (.int s), some (esD es), some (.lst (rs.map rowD)), some (.int ((0 : Int) + (w : Int))), some (esD bs), some (.int ((0 : Int) + (j : Int))), some (.int (u - 1)), some (.int y), t9, t10, t11] = .ok (.int (-1))) en).trans dSub_i
    have b2 : gBin dAdd (gC (.int 1048577)) (gCB m__law_mix (aCons (gVar 0) (aCons (gBin dAdd (gC (.int 33)) (gVar 4)) (aCons (gC (.int 9)) aNil)))) [some (di ds), some (.int s), some (esD es), some (.lst (rs.map rowD)), some (.int ((0 : Int) + (w : Int))), some (esD bs), some (.int ((0 : Int) + (j : Int))), some (.int (u - 1)), some (.int y), t9, t10, t11] = .ok (.int (1048577 + n)) := (bin_e rfl en).trans dAdd_i
    exact lst4 rfl b1 b2 rfl
  obtain ⟨f, f0, f1, ef⟩ := mixS (ρ := [some (di ds), some (.int s), some (esD es), some (.lst (rs.map rowD)), some (.int ((0 : Int) + (w : Int))), some (esD bs), some (.int ((0 : Int) + (j : Int))), some (.int (u - 1)), some (.int y), some (.lst [.int 3, .int (-1 - n), .int (1048577 + n), .int 1048576]), t10, t11]) hd (k := 34 + 5 * ((0 : Int) + (w : Int)) + ((0 : Int) + (j : Int))) (m := 4) (b := gC (.int 4)) (by omega) (by omega) (by omega) rfl (idx 34 _ rfl rfl) rfl
  obtain ⟨p, pb, pe⟩ : ∃ p : Int, p.natAbs ≤ 10000000 ∧ dIx (.lst [.int 3, .int (-1 - n), .int (1048577 + n), .int 1048576]) (.int f) = .ok (.int p) := by
    have hc : f = 0 ∨ f = 1 ∨ f = 2 ∨ f = 3 := by omega
    rcases hc with z | z | z | z <;> subst z
    · exact ⟨3, by decide, rfl⟩
    · exact ⟨-1 - n, by omega, rfl⟩
    · exact ⟨1048577 + n, by omega, rfl⟩
    · exact ⟨1048576, by decide, rfl⟩
  have q3 : (gAsg (gPure (eTup (aCons (gVar 7) (aCons (gVar 8) (aCons (gBin dIx (gVar 9) (gCB m__law_mix (aCons (gVar 0) (aCons (gBin dAdd (gBin dAdd (gC (.int 34)) (gBin dMul (gC (.int 5)) (gVar 4))) (gVar 6)) (aCons (gC (.int 4)) aNil))))) aNil))))) (gtName 10)) [some (di ds), some (.int s), some (esD es), some (.lst (rs.map rowD)), some (.int ((0 : Int) + (w : Int))), some (esD bs), some (.int ((0 : Int) + (j : Int))), some (.int (u - 1)), some (.int y), some (.lst [.int 3, .int (-1 - n), .int (1048577 + n), .int 1048576]), t10, t11] = .nx [some (di ds), some (.int s), some (esD es), some (.lst (rs.map rowD)), some (.int ((0 : Int) + (w : Int))), some (esD bs), some (.int ((0 : Int) + (j : Int))), some (.int (u - 1)), some (.int y), some (.lst [.int 3, .int (-1 - n), .int (1048577 + n), .int 1048576]), some (eD (u - 1, y, p)), t11] := set_e (i := 10) (tup3 rfl rfl ((bin_e rfl ef).trans pe))
  obtain ⟨g, g0, g1, eg⟩ := mixS (ρ := [some (di ds), some (.int s), some (esD es), some (.lst (rs.map rowD)), some (.int ((0 : Int) + (w : Int))), some (esD bs), some (.int ((0 : Int) + (j : Int))), some (.int (u - 1)), some (.int y), some (.lst [.int 3, .int (-1 - n), .int (1048577 + n), .int 1048576]), some (eD (u - 1, y, p)), t11]) hd (k := 35 + 5 * ((0 : Int) + (w : Int)) + ((0 : Int) + (j : Int))) (m := (bs.length : Int) + 1) (b := gBin dAdd (gCB dLen (aCons (gVar 5) aNil)) (gC (.int 1))) (by omega) (by omega) (by omega) rfl (idx 35 _ rfl rfl) ((bin_e (len_e (g := eD) (xs := bs) rfl) rfl).trans dAdd_i)
  have q4 : (gAsg (gPure (gCB m__law_mix (aCons (gVar 0) (aCons (gBin dAdd (gBin dAdd (gC (.int 35)) (gBin dMul (gC (.int 5)) (gVar 4))) (gVar 6)) (aCons (gBin dAdd (gCB dLen (aCons (gVar 5) aNil)) (gC (.int 1))) aNil))))) (gtName 11)) [some (di ds), some (.int s), some (esD es), some (.lst (rs.map rowD)), some (.int ((0 : Int) + (w : Int))), some (esD bs), some (.int ((0 : Int) + (j : Int))), some (.int (u - 1)), some (.int y), some (.lst [.int 3, .int (-1 - n), .int (1048577 + n), .int 1048576]), some (eD (u - 1, y, p)), t11] = .nx [some (di ds), some (.int s), some (esD es), some (.lst (rs.map rowD)), some (.int ((0 : Int) + (w : Int))), some (esD bs), some (.int ((0 : Int) + (j : Int))), some (.int (u - 1)), some (.int y), some (.lst [.int 3, .int (-1 - n), .int (1048577 + n), .int 1048576]), some (eD (u - 1, y, p)), some (.int g)] := set_e (i := 11) eg
  have q5 : (gAsg (gPure (gBin dAdd (gBin dAdd (gSl (gVar 5) gNoPart (gPart (gVar 11))) (eLst (aCons (gVar 10) aNil))) (gSl (gVar 5) (gPart (gVar 11)) gNoPart))) (gtName 5)) [some (di ds), some (.int s), some (esD es), some (.lst (rs.map rowD)), some (.int ((0 : Int) + (w : Int))), some (esD bs), some (.int ((0 : Int) + (j : Int))), some (.int (u - 1)), some (.int y), some (.lst [.int 3, .int (-1 - n), .int (1048577 + n), .int 1048576]), some (eD (u - 1, y, p)), some (.int g)] = .nx [some (di ds), some (.int s), some (esD es), some (.lst (rs.map rowD)), some (.int ((0 : Int) + (w : Int))), some (esD (bs.take g.toNat ++ [(u - 1, y, p)] ++ bs.drop g.toNat)), some (.int ((0 : Int) + (j : Int))), some (.int (u - 1)), some (.int y), some (.lst [.int 3, .int (-1 - n), .int (1048577 + n), .int 1048576]), some (eD (u - 1, y, p)), some (.int g)] := by
    refine set_e (i := 5) ?_
    refine (bin_e ((bin_e (slT_e (g := eD) (xs := bs) rfl rfl g0) (one_e (g := eD) (x := (u - 1, y, p)) rfl)).trans (cat_e ?_)) (slF_e (g := eD) (xs := bs) rfl rfl g0)).trans (cat_e ?_)
    · rw [List.length_take]
      show min _ _ + 1 ≤ _
      omega
    · rw [List.length_append, List.length_take, List.length_drop]
      show min _ _ + 1 + _ ≤ _
      omega
  refine ⟨_, rfl, ?_, (bs.take g.toNat ++ [(u - 1, y, p)] ++ bs.drop g.toNat), some (.int ((0 : Int) + (j : Int))), some (.int (u - 1)), some (.int y), some (.lst [.int 3, .int (-1 - n), .int (1048577 + n), .int 1048576]), some (eD (u - 1, y, p)), some (.int g), rfl, ?_, fun e he => ?_⟩
  · unfold jB
    rw [ev_seq q0, ev_seq q1, ev_seq q2, ev_seq q3, ev_seq q4, q5]
  · rw [List.length_append, List.length_append, List.length_take, List.length_drop]
    show min _ _ + 1 + _ = _
    omega
  · rcases List.mem_append.mp he with he | he
    · rcases List.mem_append.mp he with he | he
      · exact hs e (List.mem_of_mem_take he)
      · rw [List.mem_singleton.mp he]
        exact ⟨by show (u - 1).natAbs ≤ _; omega, by show y.natAbs ≤ _; omega, pb⟩
    · exact hs e (List.mem_of_mem_drop he)
end
end M
end

/-! text N10 -/
section
set_option maxRecDepth 100000
set_option maxHeartbeats 4000000
namespace M
open PySem DL
section
variable {ds : List Int} {s : Int} {es : List Ed} {w : Nat}
def oB : GS := (gSeq (gAsg (gPure (gCB dList (aCons (gVar 2) aNil))) (gtName 5)) (gSeq (gFor (gRng1 (aCons (gBin dAdd (gC (.int 1)) (gCB m__law_mix (aCons (gVar 0) (aCons (gBin dAdd (gC (.int 20)) (gVar 4)) (aCons (gC (.int 2)) aNil))))) aNil)) (gtName 6) (gSeq (gAsg (gPure (gBin dSub (gCB m__law_mix (aCons (gVar 0) (aCons (gBin dAdd (gBin dAdd (gC (.int 30)) (gBin dMul (gC (.int 5)) (gVar 4))) (gVar 6)) (aCons (gBin dAdd (gVar 1) (gC (.int 3))) aNil)))) (gC (.int 1)))) (gtName 7)) (gSeq (gAsg (gPure (gBin dIx (eLst (aCons (gVar 7) (aCons (gBin dSub (gCB m__law_mix (aCons (gVar 0) (aCons (gBin dAdd (gBin dAdd (gC (.int 31)) (gBin dMul (gC (.int 5)) (gVar 4))) (gVar 6)) (aCons (gBin dAdd (gVar 1) (gC (.int 3))) aNil)))) (gC (.int 1))) aNil))) (gCB m__law_mix (aCons (gVar 0) (aCons (gBin dAdd (gBin dAdd (gC (.int 32)) (gBin dMul (gC (.int 5)) (gVar 4))) (gVar 6)) (aCons (gC (.int 2)) aNil)))))) (gtName 8)) (gSeq (gAsg (gPure (eLst (aCons (gC (.int 3)) (aCons (gBin dSub (gUn dNeg (gC (.int 1))) (gCB m__law_mix (aCons (gVar 0) (aCons (gBin dAdd (gC (.int 33)) (gVar 4)) (aCons (gC (.int 9)) aNil))))) (aCons (gBin dAdd (gC (.int 1048577)) (gCB m__law_mix (aCons (gVar 0) (aCons (gBin dAdd (gC (.int 33)) (gVar 4)) (aCons (gC (.int 9)) aNil))))) (aCons (gC (.int 1048576)) aNil)))))) (gtName 9)) (gSeq (gAsg (gPure (eTup (aCons (gVar 7) (aCons (gVar 8) (aCons (gBin dIx (gVar 9) (gCB m__law_mix (aCons (gVar 0) (aCons (gBin dAdd (gBin dAdd (gC (.int 34)) (gBin dMul (gC (.int 5)) (gVar 4))) (gVar 6)) (aCons (gC (.int 4)) aNil))))) aNil))))) (gtName 10)) (gSeq (gAsg (gPure (gCB m__law_mix (aCons (gVar 0) (aCons (gBin dAdd (gBin dAdd (gC (.int 35)) (gBin dMul (gC (.int 5)) (gVar 4))) (gVar 6)) (aCons (gBin dAdd (gCB dLen (aCons (gVar 5) aNil)) (gC (.int 1))) aNil))))) (gtName 11)) (gAsg (gPure (gBin dAdd (gBin dAdd (gSl (gVar 5) gNoPart (gPart (gVar 11))) (eLst (aCons (gVar 10) aNil))) (gSl (gVar 5) (gPart (gVar 11)) gNoPart))) (gtName 5)))))))) (gDrop (gApp 3 (gPure (eTup (aCons (gVar 1) (aCons (gVar 5) aNil))))))))
def OI (ds : List Int) (s : Int) (es : List Ed) (w : Nat) (ρ : EnvD) : Prop := ∃ (rs : List (Int × List Ed)) (t4 t5 t6 t7 t8 t9 t10 t11 : Option DV), ρ = [some (di ds), some (.int s), some (esD es), some (.lst (rs.map rowD)), t4, t5, t6, t7, t8, t9, t10, t11] ∧ rs.length = 3 + w ∧ ∀ z ∈ rs, Rw z
theorem o_turn {ρ : EnvD} (hd : Ds ds) (h1 : 1 ≤ s) (h2 : s ≤ 40) (hl : es.length ≤ 200) (hs : ∀ e ∈ es, Sm e) (hw : w < 4) (h : OI ds s es w ρ) : ∃ ρ1 ρ2, gtName 4 (.int ((0 : Int) + (w : Int))) ρ = .ok ρ1 ∧ oB ρ1 = .nx ρ2 ∧ OI ds s es (w + 1) ρ2 := by
  obtain ⟨rs, t4, t5, t6, t7, t8, t9, t10, t11, rfl, hr, hR⟩ := h
  refine ⟨[some (di ds), some (.int s), some (esD es), some (.lst (rs.map rowD)), some (.int ((0 : Int) + (w : Int))), t5, t6, t7, t8, t9, t10, t11], ?_⟩
  have s0 : (gAsg (gPure (gCB dList (aCons (gVar 2) aNil))) (gtName 5)) [some (di ds), some (.int s), some (esD es), some (.lst (rs.map rowD)), some (.int ((0 : Int) + (w : Int))), t5, t6, t7, t8, t9, t10, t11] = .nx [some (di ds), some (.int s), some (esD es), some (.lst (rs.map rowD)), some (.int ((0 : Int) + (w : Int))), some (esD es), t6, t7, t8, t9, t10, t11] := set_e (i := 5) ((cb1 rfl).trans rfl)
  obtain ⟨c, c0, c1, ec⟩ := mixS (ρ := [some (di ds), some (.int s), some (esD es), some (.lst (rs.map rowD)), some (.int ((0 : Int) + (w : Int))), some (esD es), t6, t7, t8, t9, t10, t11]) (b := gC (.int 2)) (a := gBin dAdd (gC (.int 20)) (gVar 4)) hd (k := 20 + ((0 : Int) + (w : Int))) (m := 2) (by omega) (by omega) (by omega) rfl ((bin_e rfl rfl).trans dAdd_i) rfl
  obtain ⟨ρ', f1, bs, u6, u7, u8, u9, u10, u11, e1, hb, hB⟩ := forG_rngB (tg := gtName 6) (b := jB) 2 (JI ds s es rs (some (.int ((0 : Int) + (w : Int)))) es.length) (fun j ρ hj hρ => j_turn hd h1 h2 (by omega) hj hρ) (1 + c).toNat 0 [some (di ds), some (.int s), some (esD es), some (.lst (rs.map rowD)), some (.int ((0 : Int) + (w : Int))), some (esD es), t6, t7, t8, t9, t10, t11] (by omega) ⟨es, t6, t7, t8, t9, t10, t11, rfl, rfl, hs⟩
  have s1 : gFor (gRng1 (aCons (gBin dAdd (gC (.int 1)) (gCB m__law_mix (aCons (gVar 0) (aCons (gBin dAdd (gC (.int 20)) (gVar 4)) (aCons (gC (.int 2)) aNil))))) aNil)) (gtName 6) jB [some (di ds), some (.int s), some (esD es), some (.lst (rs.map rowD)), some (.int ((0 : Int) + (w : Int))), some (esD es), t6, t7, t8, t9, t10, t11] = .nx ρ' := ev_for (rng1_e (i := 1 + c) (n := (1 + c).toNat) ((bin_e rfl ec).trans dAdd_i) (by omega) (by omega)) (by rw [rngD_eq]; exact f1)
  have s2 : (gDrop (gApp 3 (gPure (eTup (aCons (gVar 1) (aCons (gVar 5) aNil)))))) [some (di ds), some (.int s), some (esD es), some (.lst (rs.map rowD)), some (.int ((0 : Int) + (w : Int))), some (esD bs), u6, u7, u8, u9, u10, u11] = .nx [some (di ds), some (.int s), some (esD es), some (.lst ((rs ++ [(s, bs)]).map rowD)), some (.int ((0 : Int) + (w : Int))), some (esD bs), u6, u7, u8, u9, u10, u11] := app_g (g := rowD) (x := (s, bs)) rfl (tup2 rfl rfl) (by omega)
  refine ⟨_, rfl, ?_, rs ++ [(s, bs)], some (.int ((0 : Int) + (w : Int))), some (esD bs), u6, u7, u8, u9, u10, u11, rfl, by rw [List.length_append, hr]; rfl, fun z hz => ?_⟩
  · unfold oB
    rw [ev_seq s0]
    show gSeq (gFor _ _ jB) _ _ = _
    rw [ev_seq s1, e1, s2]
  · rcases List.mem_append.mp hz with hz | hz
    · exact hR z hz
    · rw [List.mem_singleton.mp hz]
      exact ⟨by show s.natAbs ≤ _; omega, by show bs.length ≤ 900; omega, hB⟩
theorem bad_ok (hd : Ds ds) (h1 : 1 ≤ s) (h2 : s ≤ 40) (hl : es.length ≤ 200) (hs : ∀ e ∈ es, Sm e) : ∃ rs : List (Int × List Ed), m__law_bad_ones [di ds, .int s, esD es] = .ok (.lst (rs.map rowD)) ∧ rs.length ≤ 10 ∧ ∀ z ∈ rs, Rw z := by
  have st : startD 12 [di ds, .int s, esD es] = [some (di ds), some (.int s), some (esD es), none, none, none, none, none, none, none, none, none] := rfl
  obtain ⟨a, a0, a1, ea⟩ := mixS (ρ := [some (di ds), some (.int s), some (esD es), none, none, none, none, none, none, none, none, none]) (a := gC (.int 9)) (b := gC (.int 3)) hd (k := 9) (m := 3) (by omega) (by omega) (by omega) rfl rfl rfl
  obtain ⟨b, b0, b1, eb⟩ := mixS (ρ := [some (di ds), some (.int s), some (esD es), none, none, none, none, none, none, none, none, none]) (a := gC (.int 9)) (b := gC (.int 50)) hd (k := 9) (m := 50) (by omega) (by omega) (by omega) rfl rfl rfl
  have r3 : gBin dAdd (gVar 2) (gBin dRep (eLst (aCons (eTup (aCons (gC (.int 0)) (aCons (gC (.int 1)) (aCons (gC (.int 5)) aNil)))) aNil)) (gC (.int 201))) [some (di ds), some (.int s), some (esD es), none, none, none, none, none, none, none, none, none] = .ok (esD (es ++ List.replicate 201 (0, 1, 5))) := (bin_e rfl ((bin_e (one_e (g := eD) (x := (0, 1, 5)) (tup3 rfl rfl rfl)) rfl).trans (rep_e (n := 201) (by omega)))).trans (cat_e (g := eD) (by rw [List.length_replicate]; omega))
  have s0 : (gAsg (gPure (eLst (aCons (eTup (aCons (gBin dSub (gCB m__law_mix (aCons (gVar 0) (aCons (gC (.int 9)) (aCons (gC (.int 3)) aNil)))) (gC (.int 2))) (aCons (gVar 2) aNil))) (aCons (eTup (aCons (gBin dAdd (gC (.int 41)) (gCB m__law_mix (aCons (gVar 0) (aCons (gC (.int 9)) (aCons (gC (.int 50)) aNil))))) (aCons (gVar 2) aNil))) (aCons (eTup (aCons (gVar 1) (aCons (gBin dAdd (gVar 2) (gBin dRep (eLst (aCons (eTup (aCons (gC (.int 0)) (aCons (gC (.int 1)) (aCons (gC (.int 5)) aNil)))) aNil)) (gC (.int 201)))) aNil))) aNil))))) (gtName 3)) [some (di ds), some (.int s), some (esD es), none, none, none, none, none, none, none, none, none] = .nx [some (di ds), some (.int s), some (esD es), some (.lst ([(a - 2, es), (41 + b, es), (s, es ++ List.replicate 201 (0, 1, 5))].map rowD)), none, none, none, none, none, none, none, none] := set_e (i := 3) (lst3 (tup2 ((bin_e ea rfl).trans dSub_i) rfl) (tup2 ((bin_e rfl eb).trans dAdd_i) rfl) (tup2 rfl r3))
  obtain ⟨ρ', f1, rs, t4, t5, t6, t7, t8, t9, t10, t11, e1, hr, hR⟩ := forG_rngB (tg := gtName 4) (b := oB) 4 (OI ds s es) (fun w ρ hw hρ => o_turn hd h1 h2 hl hs hw hρ) 4 0 [some (di ds), some (.int s), some (esD es), some (.lst ([(a - 2, es), (41 + b, es), (s, es ++ List.replicate 201 (0, 1, 5))].map rowD)), none, none, none, none, none, none, none, none] (by omega) ⟨_, none, none, none, none, none, none, none, none, rfl, rfl, fun z hz => by
    have hz : z = (a - 2, es) ∨ z = (41 + b, es) ∨ z = (s, es ++ List.replicate 201 (0, 1, 5)) := by simpa only [List.mem_cons, List.not_mem_nil, or_false] using hz
    rcases hz with z1 | z1 | z1 <;> subst z1
    · exact ⟨by show (a - 2).natAbs ≤ _; omega, by show es.length ≤ 900; omega, hs⟩
    · exact ⟨by show (41 + b).natAbs ≤ _; omega, by show es.length ≤ 900; omega, hs⟩
    · refine ⟨by show s.natAbs ≤ _; omega, by show (es ++ List.replicate 201 (0, 1, 5)).length ≤ 900; rw [List.length_append, List.length_replicate]; omega, fun e he => ?_⟩
      rcases List.mem_append.mp he with he | he
      · exact hs e he
      · rw [List.eq_of_mem_replicate he]
        exact ⟨by decide, by decide, by decide⟩⟩
  have s1 : gFor (gRng1 (aCons (gC (.int 4)) aNil)) (gtName 4) oB [some (di ds), some (.int s), some (esD es), some (.lst ([(a - 2, es), (41 + b, es), (s, es ++ List.replicate 201 (0, 1, 5))].map rowD)), none, none, none, none, none, none, none, none] = .nx ρ' := ev_for (rng1_e (i := 4) (n := 4) rfl rfl (by omega)) (by rw [rngD_eq]; exact f1)
  refine ⟨rs, ?_, by omega, hR⟩
  unfold m__law_bad_ones runB b__law_bad_ones
  rw [st, ev_seq s0]
  show finB (gSeq (gFor _ _ oB) _ _) = _
  rw [ev_seq s1, e1]
  rfl
end
end M
end

/-! text N11 -/
section
set_option maxRecDepth 100000
set_option maxHeartbeats 4000000
namespace M
open PySem DL
theorem ix0 {a b : DV} : dIx (.tup [a, b]) (.int 0) = .ok a := rfl
theorem ix1 {a b : DV} : dIx (.tup [a, b]) (.int 1) = .ok b := rfl
theorem appT_e {ge gx : GE} {ρ : EnvD} {ds : List DV} {x : DV} (h1 : ge ρ = .ok (.lst ds)) (h2 : gx ρ = .ok x) (h : ds.length ≤ 100000) : gDrop (gAppT ge gx) ρ = .nx ρ := by
  unfold gDrop gAppT
  rw [h1]
  dsimp only [Rs.bind]
  rw [h2]
  dsimp only
  rw [if_pos (by rw [sz_eq]; omega)]
theorem seq_raw {g : GE} {ρ : EnvD} {ds : List DV} (h : g ρ = .ok (.lst ds)) : gSeqI g ρ = .ok ds := by
  unfold gSeqI
  rw [h]
  rfl
theorem forG_nil {tg : GG} {b : GS} {ρ : EnvD} : forG tg b [] ρ = .nx ρ := rfl
theorem m1_e {ρ : EnvD} : gUn dNeg (gC (.int 1)) ρ = .ok (.int (-1)) := rfl
theorem set_parts {es : List Ed} {n : Nat} {x : Ed} (h : n < es.length) : es.take n ++ [x] ++ es.drop (n + 1) = es.set n x := by
  rw [List.set_eq_take_append_cons_drop, if_pos h, List.append_assoc]
  rfl
theorem cb4 {a b c d : GE} {o : OpA} {ρ : EnvD} {x y z u : DV} (h : a ρ = .ok x) (h2 : b ρ = .ok y) (h3 : c ρ = .ok z) (h4 : d ρ = .ok u) : gCB o (aCons a (aCons b (aCons c (aCons d aNil)))) ρ = o [x, y, z, u] := by
  rw [ev_cb, ev_cons, h, ev_cons, h2, ev_cons, h3, ev_cons, h4]
  rfl
theorem mixS2 {ds : List Int} {k m : Int} (hd : Ds ds) (hk : 0 ≤ k) (hm : 0 < m) {a b : GE} {ρ : EnvD} (e0 : lk ρ 1 = .ok (di ds)) (e1 : a ρ = .ok (.int k)) (e2 : b ρ = .ok (.int m)) : ∃ v : Int, 0 ≤ v ∧ v < m ∧ gCB m__law_mix (aCons (gVar 1) (aCons a (aCons b aNil))) ρ = .ok (.int v) := by
  obtain ⟨v, v0, v1, e⟩ := mix_ok hd hk hm
  exact ⟨v, v0, v1, (cb3 e0 e1 e2).trans e⟩
section
variable {ds : List Int} {s : Int} {es : List Ed} {S0 W2 T3 E5 t8 t9 t10 t11 t12 t13 t14 t15 t16 : Option DV}
def EI (S0 W2 T3 E5 : Option DV) (ds : List Int) (s : Int) (es : List Ed) (ρ : EnvD) : Prop := ∃ t8 t9 t10 t11 t12 t13 t14 t15 t16 : Option DV, ρ = [S0, some (di ds), W2, T3, some (.int s), E5, some (esD es), some (net s es), t8, t9, t10, t11, t12, t13, t14, t15, t16]
def rowB : GS := (gSeq (gAsg (gPure (gCB dRepr (aCons (gVar 8) aNil))) (gtName 9)) (gIfS (gOr (gB (gBin dNe (gCB m__law_made (aCons (gBin dIx (gVar 8) (gC (.int 0))) (aCons (gBin dIx (gVar 8) (gC (.int 1))) aNil))) (gCB m__law_due (aCons (gBin dIx (gVar 8) (gC (.int 0))) (aCons (gBin dIx (gVar 8) (gC (.int 1))) aNil))))) (gB (gBin dNe (gCB dRepr (aCons (gVar 8) aNil)) (gVar 9)))) (gRet (gPure (gC (.bl false)))) gNext))
theorem row_turn {z : Int × List Ed} (hz : Rw z) : ∃ ρ2, rowB [S0, some (di ds), W2, T3, some (.int s), E5, some (esD es), some (net s es), some (rowD z), t9, t10, t11, t12, t13, t14, t15, t16] = .nx ρ2 ∧ EI S0 W2 T3 E5 ds s es ρ2 := by
  obtain ⟨h1, h2, h3⟩ := hz
  have s0 : (gAsg (gPure (gCB dRepr (aCons (gVar 8) aNil))) (gtName 9)) [S0, some (di ds), W2, T3, some (.int s), E5, some (esD es), some (net s es), some (rowD z), t9, t10, t11, t12, t13, t14, t15, t16] = .nx [S0, some (di ds), W2, T3, some (.int s), E5, some (esD es), some (net s es), some (rowD z), some (.str (py (rowD z)).shown), t10, t11, t12, t13, t14, t15, t16] := set_e (i := 9) ((cb1 rfl).trans (row_repr h1 h3 (by omega)))
  have i0 : ∀ ρ, lk ρ 8 = .ok (rowD z) → gBin dIx (gVar 8) (gC (.int 0)) ρ = .ok (.int z.1) := fun ρ h => (bin_e h rfl).trans ix0
  have i1 : ∀ ρ, lk ρ 8 = .ok (rowD z) → gBin dIx (gVar 8) (gC (.int 1)) ρ = .ok (esD z.2) := fun ρ h => (bin_e h rfl).trans ix1
  have t : (gOr (gB (gBin dNe (gCB m__law_made (aCons (gBin dIx (gVar 8) (gC (.int 0))) (aCons (gBin dIx (gVar 8) (gC (.int 1))) aNil))) (gCB m__law_due (aCons (gBin dIx (gVar 8) (gC (.int 0))) (aCons (gBin dIx (gVar 8) (gC (.int 1))) aNil))))) (gB (gBin dNe (gCB dRepr (aCons (gVar 8) aNil)) (gVar 9)))) [S0, some (di ds), W2, T3, some (.int s), E5, some (esD es), some (net s es), some (rowD z), some (.str (py (rowD z)).shown), t10, t11, t12, t13, t14, t15, t16] = .ok false := by
    rw [or_e (b_e ((bin_e ((cb2 (i0 _ rfl) (i1 _ rfl)).trans (made_ok (by omega))) ((cb2 (i0 _ rfl) (i1 _ rfl)).trans (law_due_ok (by omega)))).trans ne_due)) (b_e ((bin_e ((cb1 rfl).trans (row_repr h1 h3 (by omega))) rfl).trans (ne_str row_shown)))]
    rfl
  refine ⟨[S0, some (di ds), W2, T3, some (.int s), E5, some (esD es), some (net s es), some (rowD z), some (.str (py (rowD z)).shown), t10, t11, t12, t13, t14, t15, t16], ?_, some (rowD z), some (.str (py (rowD z)).shown), t10, t11, t12, t13, t14, t15, t16, rfl⟩
  unfold rowB
  rw [ev_seq s0, ev_ifS t]
  rfl
def wayB : GS := (gIfS (gB (gBin dNe (gCB m__law_refused (aCons (gVar 11) (aCons (gVar 7) (aCons (gVar 10) (aCons (gC (.int 0)) aNil))))) (eTup (aCons (eLst (aCons (gC (.bl true)) (aCons (gC (.bl false)) (aCons (gC (.bl false)) aNil)))) (aCons (gVar 10) aNil))))) (gRet (gPure (gC (.bl false)))) gNext)
theorem way_turn {w x : Int} (h : m__law_refused [.int w, net s es, .int x, .int 0] = .ok (rf true false false (.int x))) : wayB [S0, some (di ds), W2, T3, some (.int s), E5, some (esD es), some (net s es), t8, t9, some (.int x), some (.int w), t12, t13, t14, t15, t16] = .nx [S0, some (di ds), W2, T3, some (.int s), E5, some (esD es), some (net s es), t8, t9, some (.int x), some (.int w), t12, t13, t14, t15, t16] := by
  have l : (eTup (aCons (eLst (aCons (gC (.bl true)) (aCons (gC (.bl false)) (aCons (gC (.bl false)) aNil)))) (aCons (gVar 10) aNil))) [S0, some (di ds), W2, T3, some (.int s), E5, some (esD es), some (net s es), t8, t9, some (.int x), some (.int w), t12, t13, t14, t15, t16] = .ok (rf true false false (.int x)) := tup2 (lst3 rfl rfl rfl) rfl
  have t : (gB (gBin dNe (gCB m__law_refused (aCons (gVar 11) (aCons (gVar 7) (aCons (gVar 10) (aCons (gC (.int 0)) aNil))))) (eTup (aCons (eLst (aCons (gC (.bl true)) (aCons (gC (.bl false)) (aCons (gC (.bl false)) aNil)))) (aCons (gVar 10) aNil))))) [S0, some (di ds), W2, T3, some (.int s), E5, some (esD es), some (net s es), t8, t9, some (.int x), some (.int w), t12, t13, t14, t15, t16] = .ok false := b_e ((bin_e ((cb4 rfl rfl rfl rfl).trans h) l).trans ne_rf)
  unfold wayB
  rw [ev_ifS t]
  rfl
def wr1B : GS := (gFor (gRng1 (aCons (gC (.int 3)) aNil)) (gtName 11) (gIfS (gB (gBin dNe (gCB m__law_refused (aCons (gVar 11) (aCons (gVar 7) (aCons (gVar 10) (aCons (gC (.int 0)) aNil))))) (eTup (aCons (eLst (aCons (gC (.bl true)) (aCons (gC (.bl false)) (aCons (gC (.bl false)) aNil)))) (aCons (gVar 10) aNil))))) (gRet (gPure (gC (.bl false)))) gNext))
theorem wr1_turn {x : Int} (h : ¬ (0 ≤ x ∧ x < s)) : wr1B [S0, some (di ds), W2, T3, some (.int s), E5, some (esD es), some (net s es), t8, t9, some (.int x), t11, t12, t13, t14, t15, t16] = .nx [S0, some (di ds), W2, T3, some (.int s), E5, some (esD es), some (net s es), t8, t9, some (.int x), some (.int 2), t12, t13, t14, t15, t16] := by
  have rg : (gRng1 (aCons (gC (.int 3)) aNil)) [S0, some (di ds), W2, T3, some (.int s), E5, some (esD es), some (net s es), t8, t9, some (.int x), t11, t12, t13, t14, t15, t16] = .ok [.int 0, .int 1, .int 2] := (rng1_e (i := 3) (n := 3) rfl rfl (by omega)).trans rfl
  unfold wr1B
  refine ev_for rg ?_
  show forG (gtName 11) wayB [.int 0, .int 1, .int 2] _ = _
  rw [forG_cons (ρ1 := [S0, some (di ds), W2, T3, some (.int s), E5, some (esD es), some (net s es), t8, t9, some (.int x), some (.int 0), t12, t13, t14, t15, t16]) rfl (way_turn (ref_0 h)), forG_cons (ρ1 := [S0, some (di ds), W2, T3, some (.int s), E5, some (esD es), some (net s es), t8, t9, some (.int x), some (.int 1), t12, t13, t14, t15, t16]) rfl (way_turn (ref_1 h)), forG_cons (ρ1 := [S0, some (di ds), W2, T3, some (.int s), E5, some (esD es), some (net s es), t8, t9, some (.int x), some (.int 2), t12, t13, t14, t15, t16]) rfl (way_turn (ref_2 h))]
  rfl
def wr2B : GS := (gIfS (gB (gBin dNe (gCB m__law_refused (aCons (gC (.int 3)) (aCons (gVar 7) (aCons (gVar 10) (aCons (gBin dIx (eLst (aCons (gUn dNeg (gC (.int 1))) (aCons (gC (.int 5)) aNil))) (gCB m__law_mix (aCons (gVar 1) (aCons (gC (.int 3)) (aCons (gC (.int 2)) aNil))))) aNil))))) (eTup (aCons (eLst (aCons (gC (.bl false)) (aCons (gC (.bl true)) (aCons (gC (.bl false)) aNil)))) (aCons (gVar 10) aNil))))) (gRet (gPure (gC (.bl false)))) gNext)
theorem wr2_turn {x : Int} (hd : Ds ds) (h : ¬ (0 ≤ x ∧ x < es.length)) : wr2B [S0, some (di ds), W2, T3, some (.int s), E5, some (esD es), some (net s es), t8, t9, some (.int x), t11, t12, t13, t14, t15, t16] = .nx [S0, some (di ds), W2, T3, some (.int s), E5, some (esD es), some (net s es), t8, t9, some (.int x), t11, t12, t13, t14, t15, t16] := by
  obtain ⟨c, c0, c1, ec⟩ := mixS2 (ρ := [S0, some (di ds), W2, T3, some (.int s), E5, some (esD es), some (net s es), t8, t9, some (.int x), t11, t12, t13, t14, t15, t16]) (a := gC (.int 3)) (b := gC (.int 2)) hd (k := 3) (m := 2) (by omega) (by omega) rfl rfl rfl
  obtain ⟨p, ep⟩ : ∃ p : Int, gBin dIx (eLst (aCons (gUn dNeg (gC (.int 1))) (aCons (gC (.int 5)) aNil))) (gCB m__law_mix (aCons (gVar 1) (aCons (gC (.int 3)) (aCons (gC (.int 2)) aNil)))) [S0, some (di ds), W2, T3, some (.int s), E5, some (esD es), some (net s es), t8, t9, some (.int x), t11, t12, t13, t14, t15, t16] = .ok (.int p) := by
    have hc : c = 0 ∨ c = 1 := by omega
    rcases hc with z | z <;> subst z
    · exact ⟨-1, (bin_e (lst2 rfl rfl) ec).trans rfl⟩
    · exact ⟨5, (bin_e (lst2 rfl rfl) ec).trans rfl⟩
  have l : (eTup (aCons (eLst (aCons (gC (.bl false)) (aCons (gC (.bl true)) (aCons (gC (.bl false)) aNil)))) (aCons (gVar 10) aNil))) [S0, some (di ds), W2, T3, some (.int s), E5, some (esD es), some (net s es), t8, t9, some (.int x), t11, t12, t13, t14, t15, t16] = .ok (rf false true false (.int x)) := tup2 (lst3 rfl rfl rfl) rfl
  have r := ref_3 (c := "BadEdge") (with_ex1 (s := s) (p := p) h)
  have t : (gB (gBin dNe (gCB m__law_refused (aCons (gC (.int 3)) (aCons (gVar 7) (aCons (gVar 10) (aCons (gBin dIx (eLst (aCons (gUn dNeg (gC (.int 1))) (aCons (gC (.int 5)) aNil))) (gCB m__law_mix (aCons (gVar 1) (aCons (gC (.int 3)) (aCons (gC (.int 2)) aNil))))) aNil))))) (eTup (aCons (eLst (aCons (gC (.bl false)) (aCons (gC (.bl true)) (aCons (gC (.bl false)) aNil)))) (aCons (gVar 10) aNil))))) [S0, some (di ds), W2, T3, some (.int s), E5, some (esD es), some (net s es), t8, t9, some (.int x), t11, t12, t13, t14, t15, t16] = .ok false := b_e ((bin_e ((cb4 rfl rfl rfl ep).trans r) l).trans ne_rf)
  unfold wr2B
  rw [ev_ifS t]
  rfl
def wr3B : GS := (gIfS (gB (gBin dNe (gCB m__law_refused (aCons (gC (.int 3)) (aCons (gVar 7) (aCons (gVar 13) (aCons (gVar 10) aNil))))) (eTup (aCons (eLst (aCons (gC (.bl false)) (aCons (gC (.bl false)) (aCons (gC (.bl true)) aNil)))) (aCons (gVar 13) aNil))))) (gRet (gPure (gC (.bl false)))) gNext)
theorem wr3_turn {x k : Int} (hg : ∀ e ∈ es, Ge s e) (k0 : 0 ≤ k) (k1 : k < es.length) (h : ¬ (0 ≤ x ∧ x ≤ 1048576)) : wr3B [S0, some (di ds), W2, T3, some (.int s), E5, some (esD es), some (net s es), t8, t9, some (.int x), t11, t12, some (.int k), t14, t15, t16] = .nx [S0, some (di ds), W2, T3, some (.int s), E5, some (esD es), some (net s es), t8, t9, some (.int x), t11, t12, some (.int k), t14, t15, t16] := by
  have l : (eTup (aCons (eLst (aCons (gC (.bl false)) (aCons (gC (.bl false)) (aCons (gC (.bl true)) aNil)))) (aCons (gVar 13) aNil))) [S0, some (di ds), W2, T3, some (.int s), E5, some (esD es), some (net s es), t8, t9, some (.int x), t11, t12, some (.int k), t14, t15, t16] = .ok (rf false false true (.int k)) := tup2 (lst3 rfl rfl rfl) rfl
  have r := ref_3 (c := "BadPrice") (with_ex2 (s := s) (p := x) hg k0 k1 h)
  have t : (gB (gBin dNe (gCB m__law_refused (aCons (gC (.int 3)) (aCons (gVar 7) (aCons (gVar 13) (aCons (gVar 10) aNil))))) (eTup (aCons (eLst (aCons (gC (.bl false)) (aCons (gC (.bl false)) (aCons (gC (.bl true)) aNil)))) (aCons (gVar 13) aNil))))) [S0, some (di ds), W2, T3, some (.int s), E5, some (esD es), some (net s es), t8, t9, some (.int x), t11, t12, some (.int k), t14, t15, t16] = .ok false := b_e ((bin_e ((cb4 rfl rfl rfl rfl).trans r) l).trans ne_rf)
  unfold wr3B
  rw [ev_ifS t]
  rfl
end
end M
end

/-! text N12 -/
section
set_option maxRecDepth 100000
set_option maxHeartbeats 4000000
namespace M
open PySem DL
theorem min_e {a b : GE} {ρ : EnvD} {i j : Int} (h1 : a ρ = .ok (.int i)) (h2 : b ρ = .ok (.int j)) : gCB dMin2 (aCons a (aCons b aNil)) ρ = .ok (.int (if j < i then j else i)) := (cb2 h1 h2).trans rfl
theorem lenE_e {ρ : EnvD} {es : List Ed} {i : Nat} (e : lk ρ i = .ok (esD es)) : gCB dLen (aCons (gVar i) aNil) ρ = .ok (.int es.length) := len_e (g := eD) (xs := es) e
section
variable {ds : List Int} {s : Int} {es : List Ed} {S0 W2 T3 E5 t8 t9 t10 t11 t12 t13 t14 t15 t16 : Option DV}
theorem low_e {ρ : EnvD} {k : Int} (hd : Ds ds) (h : lk ρ 1 = .ok (di ds)) (hk : 0 ≤ k) : ∃ v : Int, 0 ≤ v ∧ gBin dSub (gUn dNeg (gC (.int 1))) (gCB m__law_mix (aCons (gVar 1) (aCons (gC (.int k)) (aCons (gC (.int 9)) aNil)))) ρ = .ok (.int (-1 - v)) := by
  obtain ⟨v, v0, v1, e⟩ := mixS2 (ρ := ρ) (a := gC (.int k)) (b := gC (.int 9)) hd (k := k) (m := 9) hk (by omega) h rfl rfl
  exact ⟨v, v0, (bin_e m1_e e).trans dSub_i⟩
theorem high_e {ρ : EnvD} {k z : Int} {g : GE} (hd : Ds ds) (h : lk ρ 1 = .ok (di ds)) (hk : 0 ≤ k) (hg : g ρ = .ok (.int z)) : ∃ v : Int, 0 ≤ v ∧ gBin dAdd g (gCB m__law_mix (aCons (gVar 1) (aCons (gC (.int k)) (aCons (gC (.int 9)) aNil)))) ρ = .ok (.int (z + v)) := by
  obtain ⟨v, v0, v1, e⟩ := mixS2 (ρ := ρ) (a := gC (.int k)) (b := gC (.int 9)) hd (k := k) (m := 9) hk (by omega) h rfl rfl
  exact ⟨v, v0, (bin_e hg e).trans dAdd_i⟩
def kB : GS := (gSeq (gAsg (gPure (gCB m__law_mix (aCons (gVar 1) (aCons (gBin dAdd (gC (.int 4)) (gVar 12)) (aCons (gCB dLen (aCons (gVar 6) aNil)) aNil))))) (gtName 13)) (gSeq (gFor (gSeqI (eLst (aCons (gBin dSub (gUn dNeg (gC (.int 1))) (gCB m__law_mix (aCons (gVar 1) (aCons (gC (.int 2)) (aCons (gC (.int 9)) aNil))))) (aCons (gBin dAdd (gC (.int 1048577)) (gCB m__law_mix (aCons (gVar 1) (aCons (gC (.int 2)) (aCons (gC (.int 9)) aNil))))) aNil)))) (gtName 10) (gIfS (gB (gBin dNe (gCB m__law_refused (aCons (gC (.int 3)) (aCons (gVar 7) (aCons (gVar 13) (aCons (gVar 10) aNil))))) (eTup (aCons (eLst (aCons (gC (.bl false)) (aCons (gC (.bl false)) (aCons (gC (.bl true)) aNil)))) (aCons (gVar 13) aNil))))) (gRet (gPure (gC (.bl false)))) gNext)) (gSeq (gAsg (gPure (gBin dIx (eLst (aCons (gC (.int 0)) (aCons (gC (.int 1048576)) (aCons (gCB m__law_mix (aCons (gVar 1) (aCons (gBin dAdd (gC (.int 6)) (gVar 12)) (aCons (gC (.int 3000)) aNil)))) aNil)))) (gCB m__law_mix (aCons (gVar 1) (aCons (gC (.int 8)) (aCons (gC (.int 3)) aNil)))))) (gtName 14)) (gSeq (gAsg (gPure (gMeth "Network" "with_price" m_Network_with_price (gVar 7) (aCons (gVar 13) (aCons (gVar 14) aNil)))) (gtName 15)) (gSeq (gAsg (gPure (gBin dAdd (gBin dAdd (gSl (gVar 6) gNoPart (gPart (gVar 13))) (eLst (aCons (eTup (aCons (gBin dIx (gBin dIx (gVar 6) (gVar 13)) (gC (.int 0))) (aCons (gBin dIx (gBin dIx (gVar 6) (gVar 13)) (gC (.int 1))) (aCons (gVar 14) aNil)))) aNil))) (gSl (gVar 6) (gPart (gBin dAdd (gVar 13) (gC (.int 1)))) gNoPart))) (gtName 16)) (gIfS (gNot (gB (gCB m__law_alike (aCons (gVar 15) (aCons (gVar 4) (aCons (gVar 16) aNil)))))) (gRet (gPure (gC (.bl false)))) gNext))))))
theorem k_turn {i : Nat} {ρ : EnvD} (hd : Ds ds) (h1 : 1 ≤ s) (h2 : s ≤ 40) (hl : es.length ≤ 200) (hg : ∀ e ∈ es, Ge s e) (hn : 0 < es.length) (h : EI S0 W2 T3 E5 ds s es ρ) : ∃ ρ1 ρ2, gtName 12 (.int ((0 : Int) + (i : Int))) ρ = .ok ρ1 ∧ kB ρ1 = .nx ρ2 ∧ EI S0 W2 T3 E5 ds s es ρ2 := by
  obtain ⟨t8, t9, t10, t11, t12, t13, t14, t15, t16, rfl⟩ := h
  refine ⟨[S0, some (di ds), W2, T3, some (.int s), E5, some (esD es), some (net s es), t8, t9, t10, t11, some (.int ((0 : Int) + (i : Int))), t13, t14, t15, t16], ?_⟩
  obtain ⟨k, k0, k1, ek⟩ := mixS2 (ρ := [S0, some (di ds), W2, T3, some (.int s), E5, some (esD es), some (net s es), t8, t9, t10, t11, some (.int ((0 : Int) + (i : Int))), t13, t14, t15, t16]) (a := gBin dAdd (gC (.int 4)) (gVar 12)) (b := gCB dLen (aCons (gVar 6) aNil)) hd (k := 4 + ((0 : Int) + (i : Int))) (m := (es.length : Int)) (by omega) (by omega) rfl ((bin_e rfl rfl).trans dAdd_i) (lenE_e rfl)
  have q0 : (gAsg (gPure (gCB m__law_mix (aCons (gVar 1) (aCons (gBin dAdd (gC (.int 4)) (gVar 12)) (aCons (gCB dLen (aCons (gVar 6) aNil)) aNil))))) (gtName 13)) [S0, some (di ds), W2, T3, some (.int s), E5, some (esD es), some (net s es), t8, t9, t10, t11, some (.int ((0 : Int) + (i : Int))), t13, t14, t15, t16] = .nx [S0, some (di ds), W2, T3, some (.int s), E5, some (esD es), some (net s es), t8, t9, t10, t11, some (.int ((0 : Int) + (i : Int))), some (.int k), t14, t15, t16] := set_e (i := 13) ek
  obtain ⟨x, x0, ex⟩ := low_e (ρ := [S0, some (di ds), W2, T3, some (.int s), E5, some (esD es), some (net s es), t8, t9, t10, t11, some (.int ((0 : Int) + (i : Int))), some (.int k), t14, t15, t16]) (k := 2) hd rfl (by omega)
  obtain ⟨y, y0, ey⟩ := high_e (ρ := [S0, some (di ds), W2, T3, some (.int s), E5, some (esD es), some (net s es), t8, t9, t10, t11, some (.int ((0 : Int) + (i : Int))), some (.int k), t14, t15, t16]) (k := 2) (z := 1048577) (g := gC (.int 1048577)) hd rfl (by omega) rfl
  have l1 : (gSeqI (eLst (aCons (gBin dSub (gUn dNeg (gC (.int 1))) (gCB m__law_mix (aCons (gVar 1) (aCons (gC (.int 2)) (aCons (gC (.int 9)) aNil))))) (aCons (gBin dAdd (gC (.int 1048577)) (gCB m__law_mix (aCons (gVar 1) (aCons (gC (.int 2)) (aCons (gC (.int 9)) aNil))))) aNil)))) [S0, some (di ds), W2, T3, some (.int s), E5, some (esD es), some (net s es), t8, t9, t10, t11, some (.int ((0 : Int) + (i : Int))), some (.int k), t14, t15, t16] = .ok [.int (-1 - x), .int (1048577 + y)] := seq_raw (lst2 ex ey)
  have q1 : gFor (gSeqI (eLst (aCons (gBin dSub (gUn dNeg (gC (.int 1))) (gCB m__law_mix (aCons (gVar 1) (aCons (gC (.int 2)) (aCons (gC (.int 9)) aNil))))) (aCons (gBin dAdd (gC (.int 1048577)) (gCB m__law_mix (aCons (gVar 1) (aCons (gC (.int 2)) (aCons (gC (.int 9)) aNil))))) aNil)))) (gtName 10) wr3B [S0, some (di ds), W2, T3, some (.int s), E5, some (esD es), some (net s es), t8, t9, t10, t11, some (.int ((0 : Int) + (i : Int))), some (.int k), t14, t15, t16] = .nx [S0, some (di ds), W2, T3, some (.int s), E5, some (esD es), some (net s es), t8, t9, some (.int (1048577 + y)), t11, some (.int ((0 : Int) + (i : Int))), some (.int k), t14, t15, t16] := by
    refine ev_for l1 ?_
    rw [forG_cons (ρ1 := [S0, some (di ds), W2, T3, some (.int s), E5, some (esD es), some (net s es), t8, t9, some (.int (-1 - x)), t11, some (.int ((0 : Int) + (i : Int))), some (.int k), t14, t15, t16]) rfl (wr3_turn hg k0 k1 (by omega)), forG_cons (ρ1 := [S0, some (di ds), W2, T3, some (.int s), E5, some (esD es), some (net s es), t8, t9, some (.int (1048577 + y)), t11, some (.int ((0 : Int) + (i : Int))), some (.int k), t14, t15, t16]) rfl (wr3_turn hg k0 k1 (by omega))]
    rfl
  obtain ⟨c, c0, c1, ec⟩ := mixS2 (ρ := [S0, some (di ds), W2, T3, some (.int s), E5, some (esD es), some (net s es), t8, t9, some (.int (1048577 + y)), t11, some (.int ((0 : Int) + (i : Int))), some (.int k), t14, t15, t16]) (a := gC (.int 8)) (b := gC (.int 3)) hd (k := 8) (m := 3) (by omega) (by omega) rfl rfl rfl
  obtain ⟨v, v0, v1, ev⟩ := mixS2 (ρ := [S0, some (di ds), W2, T3, some (.int s), E5, some (esD es), some (net s es), t8, t9, some (.int (1048577 + y)), t11, some (.int ((0 : Int) + (i : Int))), some (.int k), t14, t15, t16]) (a := gBin dAdd (gC (.int 6)) (gVar 12)) (b := gC (.int 3000)) hd (k := 6 + ((0 : Int) + (i : Int))) (m := 3000) (by omega) (by omega) rfl ((bin_e rfl rfl).trans dAdd_i) rfl
  obtain ⟨p, p0, p1, q2⟩ : ∃ p : Int, 0 ≤ p ∧ p ≤ 1048576 ∧ (gAsg (gPure (gBin dIx (eLst (aCons (gC (.int 0)) (aCons (gC (.int 1048576)) (aCons (gCB m__law_mix (aCons (gVar 1) (aCons (gBin dAdd (gC (.int 6)) (gVar 12)) (aCons (gC (.int 3000)) aNil)))) aNil)))) (gCB m__law_mix (aCons (gVar 1) (aCons (gC (.int 8)) (aCons (gC (.int 3)) aNil)))))) (gtName 14)) [S0, some (di ds), W2, T3, some (.int s), E5, some (esD es), some (net s es), t8, t9, some (.int (1048577 + y)), t11, some (.int ((0 : Int) + (i : Int))), some (.int k), t14, t15, t16] = .nx [S0, some (di ds), W2, T3, some (.int s), E5, some (esD es), some (net s es), t8, t9, some (.int (1048577 + y)), t11, some (.int ((0 : Int) + (i : Int))), some (.int k), some (.int p), t15, t16] := by
    have l : (eLst (aCons (gC (.int 0)) (aCons (gC (.int 1048576)) (aCons (gCB m__law_mix (aCons (gVar 1) (aCons (gBin dAdd (gC (.int 6)) (gVar 12)) (aCons (gC (.int 3000)) aNil)))) aNil)))) [S0, some (di ds), W2, T3, some (.int s), E5, some (esD es), some (net s es), t8, t9, some (.int (1048577 + y)), t11, some (.int ((0 : Int) + (i : Int))), some (.int k), t14, t15, t16] = .ok (.lst [.int 0, .int 1048576, .int v]) := lst3 rfl rfl ev
    have hc : c = 0 ∨ c = 1 ∨ c = 2 := by omega
    rcases hc with z | z | z <;> subst z
    · exact ⟨0, by omega, by omega, set_e (i := 14) ((bin_e l ec).trans rfl)⟩
    · exact ⟨1048576, by omega, by omega, set_e (i := 14) ((bin_e l ec).trans rfl)⟩
    · exact ⟨v, by omega, by omega, set_e (i := 14) ((bin_e l ec).trans rfl)⟩
  have q3 : (gAsg (gPure (gMeth "Network" "with_price" m_Network_with_price (gVar 7) (aCons (gVar 13) (aCons (gVar 14) aNil)))) (gtName 15)) [S0, some (di ds), W2, T3, some (.int s), E5, some (esD es), some (net s es), t8, t9, some (.int (1048577 + y)), t11, some (.int ((0 : Int) + (i : Int))), some (.int k), some (.int p), t15, t16] = .nx [S0, some (di ds), W2, T3, some (.int s), E5, some (esD es), some (net s es), t8, t9, some (.int (1048577 + y)), t11, some (.int ((0 : Int) + (i : Int))), some (.int k), some (.int p), some (net s (es.set k.toNat ((eAt es k.toNat).1, (eAt es k.toNat).2.1, p))), t16] := set_e (i := 15) ((meth_e (c := "Network") (m := "with_price") (ns := ["_size", "_edges"]) (dd := [.int s, esD es]) rfl (by decide) (a2_e rfl rfl)).trans (with_ok h1 h2 hl hg k0 k1 p0 p1))
  have i16 : gBin dIx (gVar 6) (gVar 13) [S0, some (di ds), W2, T3, some (.int s), E5, some (esD es), some (net s es), t8, t9, some (.int (1048577 + y)), t11, some (.int ((0 : Int) + (i : Int))), some (.int k), some (.int p), some (net s (es.set k.toNat ((eAt es k.toNat).1, (eAt es k.toNat).2.1, p))), t16] = .ok (eD (eAt es k.toNat)) := (bin_e rfl rfl).trans (ix_at (i := k.toNat) (by omega) (by omega))
  have w16 : (eLst (aCons (eTup (aCons (gBin dIx (gBin dIx (gVar 6) (gVar 13)) (gC (.int 0))) (aCons (gBin dIx (gBin dIx (gVar 6) (gVar 13)) (gC (.int 1))) (aCons (gVar 14) aNil)))) aNil)) [S0, some (di ds), W2, T3, some (.int s), E5, some (esD es), some (net s es), t8, t9, some (.int (1048577 + y)), t11, some (.int ((0 : Int) + (i : Int))), some (.int k), some (.int p), some (net s (es.set k.toNat ((eAt es k.toNat).1, (eAt es k.toNat).2.1, p))), t16] = .ok (.lst ([((eAt es k.toNat).1, (eAt es k.toNat).2.1, p)].map eD)) := one_e (g := eD) (tup3 ((bin_e i16 rfl).trans ix3_0) ((bin_e i16 rfl).trans ix3_1) rfl)
  have x16 : (gSl (gVar 6) gNoPart (gPart (gVar 13))) [S0, some (di ds), W2, T3, some (.int s), E5, some (esD es), some (net s es), t8, t9, some (.int (1048577 + y)), t11, some (.int ((0 : Int) + (i : Int))), some (.int k), some (.int p), some (net s (es.set k.toNat ((eAt es k.toNat).1, (eAt es k.toNat).2.1, p))), t16] = .ok (.lst ((es.take k.toNat).map eD)) := slT_e (g := eD) (xs := es) rfl rfl k0
  have y16 : (gSl (gVar 6) (gPart (gBin dAdd (gVar 13) (gC (.int 1)))) gNoPart) [S0, some (di ds), W2, T3, some (.int s), E5, some (esD es), some (net s es), t8, t9, some (.int (1048577 + y)), t11, some (.int ((0 : Int) + (i : Int))), some (.int k), some (.int p), some (net s (es.set k.toNat ((eAt es k.toNat).1, (eAt es k.toNat).2.1, p))), t16] = .ok (.lst ((es.drop (k + 1).toNat).map eD)) := slF_e (g := eD) (xs := es) rfl ((bin_e rfl rfl).trans dAdd_i) (by omega)
  have z16 : (gBin dAdd (gBin dAdd (gSl (gVar 6) gNoPart (gPart (gVar 13))) (eLst (aCons (eTup (aCons (gBin dIx (gBin dIx (gVar 6) (gVar 13)) (gC (.int 0))) (aCons (gBin dIx (gBin dIx (gVar 6) (gVar 13)) (gC (.int 1))) (aCons (gVar 14) aNil)))) aNil))) (gSl (gVar 6) (gPart (gBin dAdd (gVar 13) (gC (.int 1)))) gNoPart)) [S0, some (di ds), W2, T3, some (.int s), E5, some (esD es), some (net s es), t8, t9, some (.int (1048577 + y)), t11, some (.int ((0 : Int) + (i : Int))), some (.int k), some (.int p), some (net s (es.set k.toNat ((eAt es k.toNat).1, (eAt es k.toNat).2.1, p))), t16] = .ok (esD (es.set k.toNat ((eAt es k.toNat).1, (eAt es k.toNat).2.1, p))) := by
    have a1 := (bin_e x16 w16).trans (cat_e (g := eD) (by rw [List.length_take, List.length_singleton]; omega))
    have a2 := (bin_e a1 y16).trans (cat_e (g := eD) (by rw [List.length_append, List.length_take, List.length_singleton, List.length_drop]; omega))
    rw [show (k + 1).toNat = k.toNat + 1 by omega, set_parts (by omega)] at a2
    exact a2
  have q4 : (gAsg (gPure (gBin dAdd (gBin dAdd (gSl (gVar 6) gNoPart (gPart (gVar 13))) (eLst (aCons (eTup (aCons (gBin dIx (gBin dIx (gVar 6) (gVar 13)) (gC (.int 0))) (aCons (gBin dIx (gBin dIx (gVar 6) (gVar 13)) (gC (.int 1))) (aCons (gVar 14) aNil)))) aNil))) (gSl (gVar 6) (gPart (gBin dAdd (gVar 13) (gC (.int 1)))) gNoPart))) (gtName 16)) [S0, some (di ds), W2, T3, some (.int s), E5, some (esD es), some (net s es), t8, t9, some (.int (1048577 + y)), t11, some (.int ((0 : Int) + (i : Int))), some (.int k), some (.int p), some (net s (es.set k.toNat ((eAt es k.toNat).1, (eAt es k.toNat).2.1, p))), t16] = .nx [S0, some (di ds), W2, T3, some (.int s), E5, some (esD es), some (net s es), t8, t9, some (.int (1048577 + y)), t11, some (.int ((0 : Int) + (i : Int))), some (.int k), some (.int p), some (net s (es.set k.toNat ((eAt es k.toNat).1, (eAt es k.toNat).2.1, p))), some (esD (es.set k.toNat ((eAt es k.toNat).1, (eAt es k.toNat).2.1, p)))] := set_e (i := 16) z16
  have t5 : (gNot (gB (gCB m__law_alike (aCons (gVar 15) (aCons (gVar 4) (aCons (gVar 16) aNil)))))) [S0, some (di ds), W2, T3, some (.int s), E5, some (esD es), some (net s es), t8, t9, some (.int (1048577 + y)), t11, some (.int ((0 : Int) + (i : Int))), some (.int k), some (.int p), some (net s (es.set k.toNat ((eAt es k.toNat).1, (eAt es k.toNat).2.1, p))), some (esD (es.set k.toNat ((eAt es k.toNat).1, (eAt es k.toNat).2.1, p)))] = .ok false := by
    rw [not_e (b_e ((cb3 rfl rfl rfl).trans (alike_ok (es := es.set k.toNat ((eAt es k.toNat).1, (eAt es k.toNat).2.1, p)) (by rw [List.length_set]; omega) h1 (by omega))))]
    rfl
  refine ⟨[S0, some (di ds), W2, T3, some (.int s), E5, some (esD es), some (net s es), t8, t9, some (.int (1048577 + y)), t11, some (.int ((0 : Int) + (i : Int))), some (.int k), some (.int p), some (net s (es.set k.toNat ((eAt es k.toNat).1, (eAt es k.toNat).2.1, p))), some (esD (es.set k.toNat ((eAt es k.toNat).1, (eAt es k.toNat).2.1, p)))], rfl, ?_, t8, t9, some (.int (1048577 + y)), t11, some (.int ((0 : Int) + (i : Int))), some (.int k), some (.int p), some (net s (es.set k.toNat ((eAt es k.toNat).1, (eAt es k.toNat).2.1, p))), some (esD (es.set k.toNat ((eAt es k.toNat).1, (eAt es k.toNat).2.1, p))), rfl⟩
  unfold kB
  rw [ev_seq q0]
  show gSeq (gFor _ _ wr3B) _ _ = _
  rw [ev_seq q1, ev_seq q2, ev_seq q3, ev_seq q4, ev_ifS t5]
  rfl
end
end M
end

/-! text Law -/
section
set_option maxRecDepth 100000
set_option maxHeartbeats 4000000
namespace M
open PySem DL
theorem sm_ge {s : Int} {e : Ed} (h2 : s ≤ 40) (h : Ge s e) : Sm e := by
  obtain ⟨a, b, c, d, _, f, g⟩ := h
  exact ⟨by omega, by omega, by omega⟩
theorem law_true (ns : List Int) (hl : ns.length ≤ 63) : m_law [.lst (ns.map .int)] = .ok (.bl true) := by
  have st : startD 17 [di ns] = [some (di ns), none, none, none, none, none, none, none, none, none, none, none, none, none, none, none, none] := rfl
  obtain ⟨ds, ed, hd⟩ := draws_ok hl
  have s0 : (gAsg (gPure (gCB m__law_draws (aCons (gVar 0) aNil))) (gtName 1)) [some (di ns), none, none, none, none, none, none, none, none, none, none, none, none, none, none, none, none] = .nx [some (di ns), some (di ds), none, none, none, none, none, none, none, none, none, none, none, none, none, none, none] := set_e (i := 1) ((cb1 rfl).trans ed)
  obtain ⟨a, a0, a1, ea⟩ := mixS2 (ρ := [some (di ns), some (di ds), none, none, none, none, none, none, none, none, none, none, none, none, none, none, none]) (a := gC (.int 10)) (b := gC (.int 5)) hd (k := 10) (m := 5) (by omega) (by omega) rfl rfl rfl
  obtain ⟨w, s1⟩ : ∃ w : Bool, (gAsg (gPure (gBin dEq (gCB m__law_mix (aCons (gVar 1) (aCons (gC (.int 10)) (aCons (gC (.int 5)) aNil)))) (gC (.int 1)))) (gtName 2)) [some (di ns), some (di ds), none, none, none, none, none, none, none, none, none, none, none, none, none, none, none] = .nx [some (di ns), some (di ds), some (.bl w), none, none, none, none, none, none, none, none, none, none, none, none, none, none] := ⟨decide (a = 1), set_e (i := 2) ((bin_e ea rfl).trans dEq_i)⟩
  obtain ⟨b, b0, b1, eb⟩ := mixS2 (ρ := [some (di ns), some (di ds), some (.bl w), none, none, none, none, none, none, none, none, none, none, none, none, none, none]) (a := gC (.int 0)) (b := gC (.int 3)) hd (k := 0) (m := 3) (by omega) (by omega) rfl rfl rfl
  have l2 : (eLst (aCons (gC (.int 3)) (aCons (gC (.int 60)) (aCons (gC (.int 1048577)) aNil)))) [some (di ns), some (di ds), some (.bl w), none, none, none, none, none, none, none, none, none, none, none, none, none, none] = .ok (.lst [.int 3, .int 60, .int 1048577]) := lst3 rfl rfl rfl
  obtain ⟨tp, p0, p1, s2⟩ : ∃ tp : Int, 0 < tp ∧ tp ≤ 1048577 ∧ (gAsg (gPure (gBin dIx (eLst (aCons (gC (.int 3)) (aCons (gC (.int 60)) (aCons (gC (.int 1048577)) aNil)))) (gCB m__law_mix (aCons (gVar 1) (aCons (gC (.int 0)) (aCons (gC (.int 3)) aNil)))))) (gtName 3)) [some (di ns), some (di ds), some (.bl w), none, none, none, none, none, none, none, none, none, none, none, none, none, none] = .nx [some (di ns), some (di ds), some (.bl w), some (.int tp), none, none, none, none, none, none, none, none, none, none, none, none, none] := by
    have hc : b = 0 ∨ b = 1 ∨ b = 2 := by omega
    rcases hc with z | z | z <;> subst z
    · exact ⟨3, by omega, by omega, set_e (i := 3) ((bin_e l2 eb).trans rfl)⟩
    · exact ⟨60, by omega, by omega, set_e (i := 3) ((bin_e l2 eb).trans rfl)⟩
    · exact ⟨1048577, by omega, by omega, set_e (i := 3) ((bin_e l2 eb).trans rfl)⟩
  obtain ⟨z, z0, z1, ez⟩ : ∃ z : Int, 0 < z ∧ z ≤ 40 ∧ (gBin dIx (eLst (aCons (gC (.int 12)) (aCons (gC (.int 40)) aNil))) (gCB dInt (aCons (gVar 2) aNil))) [some (di ns), some (di ds), some (.bl w), some (.int tp), none, none, none, none, none, none, none, none, none, none, none, none, none] = .ok (.int z) := by
    cases w
    · exact ⟨12, by omega, by omega, (bin_e (lst2 rfl rfl) rfl).trans rfl⟩
    · exact ⟨40, by omega, by omega, (bin_e (lst2 rfl rfl) rfl).trans rfl⟩
  obtain ⟨m, m0, m1, em⟩ : ∃ z : Int, 0 ≤ z ∧ z ≤ 200 ∧ (gBin dIx (eLst (aCons (gC (.int 14)) (aCons (gC (.int 200)) aNil))) (gCB dInt (aCons (gVar 2) aNil))) [some (di ns), some (di ds), some (.bl w), some (.int tp), none, none, none, none, none, none, none, none, none, none, none, none, none] = .ok (.int z) := by
    cases w
    · exact ⟨14, by omega, by omega, (bin_e (lst2 rfl rfl) rfl).trans rfl⟩
    · exact ⟨200, by omega, by omega, (bin_e (lst2 rfl rfl) rfl).trans rfl⟩
  obtain ⟨s, es, en, h1, h2, hs, hg⟩ := network_ok hd (k := 40) (by omega) z0 m0 (by omega) p0 p1
  have s3 : (gAsg (gPure (gCB m__law_network (aCons (gVar 1) (aCons (gC (.int 40)) (aCons (gBin dIx (eLst (aCons (gC (.int 12)) (aCons (gC (.int 40)) aNil))) (gCB dInt (aCons (gVar 2) aNil))) (aCons (gBin dIx (eLst (aCons (gC (.int 14)) (aCons (gC (.int 200)) aNil))) (gCB dInt (aCons (gVar 2) aNil))) (aCons (gVar 3) aNil))))))) (gtUp 4 5)) [some (di ns), some (di ds), some (.bl w), some (.int tp), none, none, none, none, none, none, none, none, none, none, none, none, none] = .nx [some (di ns), some (di ds), some (.bl w), some (.int tp), some (.int s), some (esD es), none, none, none, none, none, none, none, none, none, none, none] := by
    unfold gAsg
    rw [ev_pure, (cb5 rfl rfl ez em rfl).trans en]
    rfl
  have s4 : (gAsg (gPure (gCB dList (aCons (gVar 5) aNil))) (gtName 6)) [some (di ns), some (di ds), some (.bl w), some (.int tp), some (.int s), some (esD es), none, none, none, none, none, none, none, none, none, none, none] = .nx [some (di ns), some (di ds), some (.bl w), some (.int tp), some (.int s), some (esD es), some (esD es), none, none, none, none, none, none, none, none, none, none] := set_e (i := 6) ((cb1 rfl).trans rfl)
  have s5 : (gAsg (gPure (gCB m_Network___init__ (aCons (gVar 4) (aCons (gVar 5) aNil)))) (gtName 7)) [some (di ns), some (di ds), some (.bl w), some (.int tp), some (.int s), some (esD es), some (esD es), none, none, none, none, none, none, none, none, none, none] = .nx [some (di ns), some (di ds), some (.bl w), some (.int tp), some (.int s), some (esD es), some (esD es), some (net s es), none, none, none, none, none, none, none, none, none] := set_e (i := 7) ((cb2 rfl rfl).trans (init_good h1 (by omega) (by omega) hg))
  have s6 : (gDrop (gApp 5 (gPure (eTup (aCons (gC (.int 0)) (aCons (gC (.int 0)) (aCons (gC (.int 0)) aNil))))))) [some (di ns), some (di ds), some (.bl w), some (.int tp), some (.int s), some (esD es), some (esD es), some (net s es), none, none, none, none, none, none, none, none, none] = .nx [some (di ns), some (di ds), some (.bl w), some (.int tp), some (.int s), some (esD (es ++ [(0, 0, 0)])), some (esD es), some (net s es), none, none, none, none, none, none, none, none, none] := app_g (g := eD) (xs := es) (x := (0, 0, 0)) rfl (tup3 rfl rfl rfl) (by omega)
  have me := meth_e (c := "Network") (m := "edges") (f := m_Network_edges) (g := gVar 7) (ga := aNil) (ρ := [some (di ns), some (di ds), some (.bl w), some (.int tp), some (.int s), some (esD (es ++ [(0, 0, 0)])), some (esD es), some (net s es), none, none, none, none, none, none, none, none, none]) (ns := ["_size", "_edges"]) (dd := [.int s, esD es]) rfl (by decide) rfl
  have s7 : (gDrop (gAppT (gMeth "Network" "edges" m_Network_edges (gVar 7) aNil) (eTup (aCons (gC (.int 0)) (aCons (gC (.int 0)) (aCons (gC (.int 0)) aNil)))))) [some (di ns), some (di ds), some (.bl w), some (.int tp), some (.int s), some (esD (es ++ [(0, 0, 0)])), some (esD es), some (net s es), none, none, none, none, none, none, none, none, none] = .nx [some (di ns), some (di ds), some (.bl w), some (.int tp), some (.int s), some (esD (es ++ [(0, 0, 0)])), some (esD es), some (net s es), none, none, none, none, none, none, none, none, none] := appT_e (me.trans edges_ok) (tup3 rfl rfl rfl) (by rw [List.length_map]; omega)
  have al : (arr 0 es).length ≤ 200 := by have := arr_len (v := 0) (es := es); omega
  have s8 : (gDrop (gAppT (gMeth "Network" "around" m_Network_around (gVar 7) (aCons (gC (.int 0)) aNil)) (gC (.int 5)))) [some (di ns), some (di ds), some (.bl w), some (.int tp), some (.int s), some (esD (es ++ [(0, 0, 0)])), some (esD es), some (net s es), none, none, none, none, none, none, none, none, none] = .nx [some (di ns), some (di ds), some (.bl w), some (.int tp), some (.int s), some (esD (es ++ [(0, 0, 0)])), some (esD es), some (net s es), none, none, none, none, none, none, none, none, none] := appT_e ((meth_e (c := "Network") (m := "around") (ns := ["_size", "_edges"]) (dd := [.int s, esD es]) rfl (by decide) (a1_e rfl)).trans (around_ok (v := 0) (by omega) (by omega) (by omega))) rfl (by rw [List.length_map]; omega)
  have tt9 : (gNot (gB (gCB m__law_alike (aCons (gVar 7) (aCons (gVar 4) (aCons (gVar 6) aNil)))))) [some (di ns), some (di ds), some (.bl w), some (.int tp), some (.int s), some (esD (es ++ [(0, 0, 0)])), some (esD es), some (net s es), none, none, none, none, none, none, none, none, none] = .ok false := by
    rw [not_e (b_e ((cb3 rfl rfl rfl).trans (alike_ok (by omega) h1 (by omega))))]
    rfl
  obtain ⟨rs, er, lr, hr⟩ := bad_ok hd h1 (by omega) (by omega) (fun e he => sm_ge (by omega) (hg e he))
  obtain ⟨ρ10, f10, e10⟩ := forG_list (g := rowD) (tg := gtName 8) (b := rowB) 1000 (fun _ => EI (some (di ns)) (some (.bl w)) (some (.int tp)) (some (esD (es ++ [(0, 0, 0)]))) ds s es) rs [] [some (di ns), some (di ds), some (.bl w), some (.int tp), some (.int s), some (esD (es ++ [(0, 0, 0)])), some (esD es), some (net s es), none, none, none, none, none, none, none, none, none] (by rw [List.length_nil]; omega) (fun x done ρ hx _ hρ => by
    obtain ⟨t8, t9, t10, t11, t12, t13, t14, t15, t16, rfl⟩ := hρ
    obtain ⟨ρ2, g1, g2⟩ := row_turn (S0 := some (di ns)) (W2 := some (.bl w)) (T3 := some (.int tp)) (E5 := some (esD (es ++ [(0, 0, 0)]))) (ds := ds) (s := s) (es := es) (t9 := t9) (t10 := t10) (t11 := t11) (t12 := t12) (t13 := t13) (t14 := t14) (t15 := t15) (t16 := t16) (hr x hx)
    exact ⟨_, ρ2, rfl, g1, g2⟩) ⟨none, none, none, none, none, none, none, none, none, rfl⟩
  have s10 : gFor (gSeqI (gCB m__law_bad_ones (aCons (gVar 1) (aCons (gVar 4) (aCons (gVar 6) aNil))))) (gtName 8) rowB [some (di ns), some (di ds), some (.bl w), some (.int tp), some (.int s), some (esD (es ++ [(0, 0, 0)])), some (esD es), some (net s es), none, none, none, none, none, none, none, none, none] = .nx ρ10 := ev_for (seq_e (g := gCB m__law_bad_ones (aCons (gVar 1) (aCons (gVar 4) (aCons (gVar 6) aNil)))) (f := rowD) ((cb3 rfl rfl rfl).trans er)) f10
  obtain ⟨t8, t9, t10, t11, t12, t13, t14, t15, t16, rfl⟩ := e10
  obtain ⟨x, x0, ex⟩ := low_e (ρ := [some (di ns), some (di ds), some (.bl w), some (.int tp), some (.int s), some (esD (es ++ [(0, 0, 0)])), some (esD es), some (net s es), t8, t9, t10, t11, t12, t13, t14, t15, t16]) (k := 1) hd rfl (by omega)
  obtain ⟨y, y0, ey⟩ := high_e (ρ := [some (di ns), some (di ds), some (.bl w), some (.int tp), some (.int s), some (esD (es ++ [(0, 0, 0)])), some (esD es), some (net s es), t8, t9, t10, t11, t12, t13, t14, t15, t16]) (k := 1) (z := s) (g := gVar 4) hd rfl (by omega) rfl
  have l11 : (gSeqI (eLst (aCons (gBin dSub (gUn dNeg (gC (.int 1))) (gCB m__law_mix (aCons (gVar 1) (aCons (gC (.int 1)) (aCons (gC (.int 9)) aNil))))) (aCons (gBin dAdd (gVar 4) (gCB m__law_mix (aCons (gVar 1) (aCons (gC (.int 1)) (aCons (gC (.int 9)) aNil))))) aNil)))) [some (di ns), some (di ds), some (.bl w), some (.int tp), some (.int s), some (esD (es ++ [(0, 0, 0)])), some (esD es), some (net s es), t8, t9, t10, t11, t12, t13, t14, t15, t16] = .ok [.int (-1 - x), .int (s + y)] := seq_raw (lst2 ex ey)
  have s11 : gFor (gSeqI (eLst (aCons (gBin dSub (gUn dNeg (gC (.int 1))) (gCB m__law_mix (aCons (gVar 1) (aCons (gC (.int 1)) (aCons (gC (.int 9)) aNil))))) (aCons (gBin dAdd (gVar 4) (gCB m__law_mix (aCons (gVar 1) (aCons (gC (.int 1)) (aCons (gC (.int 9)) aNil))))) aNil)))) (gtName 10) wr1B [some (di ns), some (di ds), some (.bl w), some (.int tp), some (.int s), some (esD (es ++ [(0, 0, 0)])), some (esD es), some (net s es), t8, t9, t10, t11, t12, t13, t14, t15, t16] = .nx [some (di ns), some (di ds), some (.bl w), some (.int tp), some (.int s), some (esD (es ++ [(0, 0, 0)])), some (esD es), some (net s es), t8, t9, some (.int (s + y)), some (.int 2), t12, t13, t14, t15, t16] := by
    refine ev_for l11 ?_
    rw [forG_cons (ρ1 := [some (di ns), some (di ds), some (.bl w), some (.int tp), some (.int s), some (esD (es ++ [(0, 0, 0)])), some (esD es), some (net s es), t8, t9, some (.int (-1 - x)), t11, t12, t13, t14, t15, t16]) rfl (wr1_turn (by omega)), forG_cons (ρ1 := [some (di ns), some (di ds), some (.bl w), some (.int tp), some (.int s), some (esD (es ++ [(0, 0, 0)])), some (esD es), some (net s es), t8, t9, some (.int (s + y)), some (.int 2), t12, t13, t14, t15, t16]) rfl (wr1_turn (by omega))]
    rfl
  obtain ⟨x2, x20, ex2⟩ := low_e (ρ := [some (di ns), some (di ds), some (.bl w), some (.int tp), some (.int s), some (esD (es ++ [(0, 0, 0)])), some (esD es), some (net s es), t8, t9, some (.int (s + y)), some (.int 2), t12, t13, t14, t15, t16]) (k := 2) hd rfl (by omega)
  obtain ⟨y2, y20, ey2⟩ := high_e (ρ := [some (di ns), some (di ds), some (.bl w), some (.int tp), some (.int s), some (esD (es ++ [(0, 0, 0)])), some (esD es), some (net s es), t8, t9, some (.int (s + y)), some (.int 2), t12, t13, t14, t15, t16]) (k := 2) (z := (es.length : Int)) (g := gCB dLen (aCons (gVar 6) aNil)) hd rfl (by omega) (lenE_e rfl)
  have l12 : (gSeqI (eLst (aCons (gBin dSub (gUn dNeg (gC (.int 1))) (gCB m__law_mix (aCons (gVar 1) (aCons (gC (.int 2)) (aCons (gC (.int 9)) aNil))))) (aCons (gBin dAdd (gCB dLen (aCons (gVar 6) aNil)) (gCB m__law_mix (aCons (gVar 1) (aCons (gC (.int 2)) (aCons (gC (.int 9)) aNil))))) aNil)))) [some (di ns), some (di ds), some (.bl w), some (.int tp), some (.int s), some (esD (es ++ [(0, 0, 0)])), some (esD es), some (net s es), t8, t9, some (.int (s + y)), some (.int 2), t12, t13, t14, t15, t16] = .ok [.int (-1 - x2), .int ((es.length : Int) + y2)] := seq_raw (lst2 ex2 ey2)
  have s12 : gFor (gSeqI (eLst (aCons (gBin dSub (gUn dNeg (gC (.int 1))) (gCB m__law_mix (aCons (gVar 1) (aCons (gC (.int 2)) (aCons (gC (.int 9)) aNil))))) (aCons (gBin dAdd (gCB dLen (aCons (gVar 6) aNil)) (gCB m__law_mix (aCons (gVar 1) (aCons (gC (.int 2)) (aCons (gC (.int 9)) aNil))))) aNil)))) (gtName 10) wr2B [some (di ns), some (di ds), some (.bl w), some (.int tp), some (.int s), some (esD (es ++ [(0, 0, 0)])), some (esD es), some (net s es), t8, t9, some (.int (s + y)), some (.int 2), t12, t13, t14, t15, t16] = .nx [some (di ns), some (di ds), some (.bl w), some (.int tp), some (.int s), some (esD (es ++ [(0, 0, 0)])), some (esD es), some (net s es), t8, t9, some (.int ((es.length : Int) + y2)), some (.int 2), t12, t13, t14, t15, t16] := by
    refine ev_for l12 ?_
    rw [forG_cons (ρ1 := [some (di ns), some (di ds), some (.bl w), some (.int tp), some (.int s), some (esD (es ++ [(0, 0, 0)])), some (esD es), some (net s es), t8, t9, some (.int (-1 - x2)), some (.int 2), t12, t13, t14, t15, t16]) rfl (wr2_turn hd (by omega)), forG_cons (ρ1 := [some (di ns), some (di ds), some (.bl w), some (.int tp), some (.int s), some (esD (es ++ [(0, 0, 0)])), some (esD es), some (net s es), t8, t9, some (.int ((es.length : Int) + y2)), some (.int 2), t12, t13, t14, t15, t16]) rfl (wr2_turn hd (by omega))]
    rfl
  obtain ⟨ρ13, f13, e13⟩ : ∃ ρ' : EnvD, gFor (gRng1 (aCons (gCB dMin2 (aCons (gC (.int 2)) (aCons (gCB dLen (aCons (gVar 6) aNil)) aNil))) aNil)) (gtName 12) kB [some (di ns), some (di ds), some (.bl w), some (.int tp), some (.int s), some (esD (es ++ [(0, 0, 0)])), some (esD es), some (net s es), t8, t9, some (.int ((es.length : Int) + y2)), some (.int 2), t12, t13, t14, t15, t16] = .nx ρ' ∧ EI (some (di ns)) (some (.bl w)) (some (.int tp)) (some (esD (es ++ [(0, 0, 0)]))) ds s es ρ' := by
    have me := min_e (a := gC (.int 2)) (b := gCB dLen (aCons (gVar 6) aNil)) (ρ := [some (di ns), some (di ds), some (.bl w), some (.int tp), some (.int s), some (esD (es ++ [(0, 0, 0)])), some (esD es), some (net s es), t8, t9, some (.int ((es.length : Int) + y2)), some (.int 2), t12, t13, t14, t15, t16]) (i := 2) (j := (es.length : Int)) rfl (lenE_e rfl)
    have hz : ∃ n : Nat, (if (es.length : Int) < 2 then (es.length : Int) else 2) = (n : Int) ∧ n ≤ es.length ∧ n ≤ 1000 := by
      split
      · exact ⟨es.length, rfl, by omega, by omega⟩
      · exact ⟨2, rfl, by omega, by omega⟩
    obtain ⟨n, en, n1, n2⟩ := hz
    obtain ⟨ρ', g1, g2⟩ := forG_rngB (tg := gtName 12) (b := kB) n (fun _ => EI (some (di ns)) (some (.bl w)) (some (.int tp)) (some (esD (es ++ [(0, 0, 0)]))) ds s es) (fun i ρ hi hρ => k_turn hd h1 (by omega) (by omega) hg (by omega) hρ) n 0 [some (di ns), some (di ds), some (.bl w), some (.int tp), some (.int s), some (esD (es ++ [(0, 0, 0)])), some (esD es), some (net s es), t8, t9, some (.int ((es.length : Int) + y2)), some (.int 2), t12, t13, t14, t15, t16] (by omega) ⟨_, _, _, _, _, _, _, _, _, rfl⟩
    exact ⟨ρ', ev_for (rng1_e me en n2) (by rw [rngD_eq]; exact g1), g2⟩
  obtain ⟨t8, t9, t10, t11, t12, t13, t14, t15, t16, rfl⟩ := e13
  have s14 : (gRet (gPure (gCB m__law_alike (aCons (gVar 7) (aCons (gVar 4) (aCons (gVar 6) aNil)))))) [some (di ns), some (di ds), some (.bl w), some (.int tp), some (.int s), some (esD (es ++ [(0, 0, 0)])), some (esD es), some (net s es), t8, t9, t10, t11, t12, t13, t14, t15, t16] = .rt (.bl true) [some (di ns), some (di ds), some (.bl w), some (.int tp), some (.int s), some (esD (es ++ [(0, 0, 0)])), some (esD es), some (net s es), t8, t9, t10, t11, t12, t13, t14, t15, t16] := ret_e ((cb3 rfl rfl rfl).trans (alike_ok (by omega) h1 (by omega)))
  unfold m_law runB b_law
  rw [st, ev_seq s0, ev_seq s1, ev_seq s2, ev_seq s3, ev_seq s4, ev_seq s5, ev_seq s6, ev_seq s7, ev_seq s8, ev_skip tt9]
  show finB (gSeq (gFor _ _ rowB) _ _) = _
  rw [ev_seq s10]
  show finB (gSeq (gFor _ _ wr1B) _ _) = _
  rw [ev_seq s11]
  show finB (gSeq (gFor _ _ wr2B) _ _) = _
  rw [ev_seq s12]
  show finB (gSeq (gFor _ _ kB) _ _) = _
  rw [ev_seq f13, s14]
  rfl
end M
end

/-! text Wlk -/
section
set_option maxRecDepth 100000
set_option maxHeartbeats 8000000
namespace M
open PySem PySem.Spec PyProof.Rows L2 DL
def topS (i : Nat) : Stmt := PySem.Challenge.pw_trunkweb_k00_networks.main.body.getD i (.Pass ⟨0, 0, 0, 0⟩)
abbrev s_check_edge : Stmt := topS 11
theorem sc_check_edge : FnScope N_check_edge ["size", "edge", "number"] (defScope s_check_edge) := ⟨rfl, rfl, rfl, by decide +kernel, rfl, by decide +kernel, by decide +kernel⟩
abbrev s__law_draws : Stmt := topS 14
theorem sc__law_draws : FnScope N__law_draws ["_law_script"] (defScope s__law_draws) := ⟨rfl, rfl, rfl, by decide +kernel, rfl, by decide +kernel, by decide +kernel⟩
abbrev s__law_mix : Stmt := topS 15
theorem sc__law_mix : FnScope N__law_mix ["_law_draws_here", "_law_k", "_law_many"] (defScope s__law_mix) := ⟨rfl, rfl, rfl, by decide +kernel, rfl, by decide +kernel, by decide +kernel⟩
abbrev s__law_network : Stmt := topS 16
theorem sc__law_network : FnScope N__law_network ["_law_draws_here", "_law_k", "_law_sizes", "_law_many", "_law_top"] (defScope s__law_network) := ⟨rfl, rfl, rfl, by decide +kernel, rfl, by decide +kernel, by decide +kernel⟩
abbrev s_Network___init__ : Stmt := inClass (topS 12) 0
theorem sc_Network___init__ : FnScope N_Network___init__ ["self", "size", "edges"] (defScope s_Network___init__) := ⟨rfl, rfl, rfl, by decide +kernel, rfl, by decide +kernel, by decide +kernel⟩
abbrev s__law_made : Stmt := topS 17
theorem sc__law_made : FnScope N__law_made ["_law_size", "_law_edges"] (defScope s__law_made) := ⟨rfl, rfl, rfl, by decide +kernel, rfl, by decide +kernel, by decide +kernel⟩
abbrev s__law_due : Stmt := topS 18
theorem sc__law_due : FnScope N__law_due ["_law_size", "_law_edges"] (defScope s__law_due) := ⟨rfl, rfl, rfl, by decide +kernel, rfl, by decide +kernel, by decide +kernel⟩
abbrev s_Network_check_vertex : Stmt := inClass (topS 12) 3
theorem sc_Network_check_vertex : FnScope N_Network_check_vertex ["self", "vertex"] (defScope s_Network_check_vertex) := ⟨rfl, rfl, rfl, by decide +kernel, rfl, by decide +kernel, by decide +kernel⟩
abbrev s_Network_around : Stmt := inClass (topS 12) 4
theorem sc_Network_around : FnScope N_Network_around ["self", "vertex"] (defScope s_Network_around) := ⟨rfl, rfl, rfl, by decide +kernel, rfl, by decide +kernel, by decide +kernel⟩
abbrev s_Network_leaving : Stmt := inClass (topS 12) 5
theorem sc_Network_leaving : FnScope N_Network_leaving ["self", "vertex"] (defScope s_Network_leaving) := ⟨rfl, rfl, rfl, by decide +kernel, rfl, by decide +kernel, by decide +kernel⟩
abbrev s_Network_entering : Stmt := inClass (topS 12) 6
theorem sc_Network_entering : FnScope N_Network_entering ["self", "vertex"] (defScope s_Network_entering) := ⟨rfl, rfl, rfl, by decide +kernel, rfl, by decide +kernel, by decide +kernel⟩
abbrev s_Network_with_price : Stmt := inClass (topS 12) 8
theorem sc_Network_with_price : FnScope N_Network_with_price ["self", "number", "price"] (defScope s_Network_with_price) := ⟨rfl, rfl, rfl, by decide +kernel, rfl, by decide +kernel, by decide +kernel⟩
abbrev s__law_refused : Stmt := topS 19
theorem sc__law_refused : FnScope N__law_refused ["_law_way", "_law_network_here", "_law_number", "_law_price"] (defScope s__law_refused) := ⟨rfl, rfl, rfl, by decide +kernel, rfl, by decide +kernel, by decide +kernel⟩
abbrev s_Network_size : Stmt := inClass (topS 12) 1
theorem sc_Network_size : FnScope N_Network_size ["self"] (defScope s_Network_size) := ⟨rfl, rfl, rfl, by decide +kernel, rfl, by decide +kernel, by decide +kernel⟩
abbrev s_Network_edges : Stmt := inClass (topS 12) 2
theorem sc_Network_edges : FnScope N_Network_edges ["self"] (defScope s_Network_edges) := ⟨rfl, rfl, rfl, by decide +kernel, rfl, by decide +kernel, by decide +kernel⟩
abbrev s_Network_other_end : Stmt := inClass (topS 12) 7
theorem sc_Network_other_end : FnScope N_Network_other_end ["self", "number", "vertex"] (defScope s_Network_other_end) := ⟨rfl, rfl, rfl, by decide +kernel, rfl, by decide +kernel, by decide +kernel⟩
abbrev s__law_alike : Stmt := topS 20
theorem sc__law_alike : FnScope N__law_alike ["_law_network_here", "_law_size", "_law_edges"] (defScope s__law_alike) := ⟨rfl, rfl, rfl, by decide +kernel, rfl, by decide +kernel, by decide +kernel⟩
abbrev s__law_bad_ones : Stmt := topS 21
theorem sc__law_bad_ones : FnScope N__law_bad_ones ["_law_draws_here", "_law_size", "_law_edges"] (defScope s__law_bad_ones) := ⟨rfl, rfl, rfl, by decide +kernel, rfl, by decide +kernel, by decide +kernel⟩
abbrev s_law : Stmt := topS 22
theorem sc_law : FnScope N_law ["_law_script"] (defScope s_law) := ⟨rfl, rfl, rfl, by decide +kernel, rfl, by decide +kernel, by decide +kernel⟩
abbrev FnP (K : PySem.W.Frag) (x : Str) (st : Stmt) (f : Addr) (fd : FuncData) : Prop := FunD K x x (defArgs st) (defBody st) (defScope st) [] [] f fd
def ecsX : List Str := ["OutOfRange", "BadVertex", "BadPrice", "BadEdge", "TooMany"]
structure Tp (P : Program) (K : PySem.W.Frag) (mg : Str → Option Value) where
  xi : XIn P K mg
  gc_root : mg "WebError" = some (.ref xi.D)
  c_OutOfRange : Addr
  gc_OutOfRange : mg "OutOfRange" = some (.ref c_OutOfRange)
  c_BadVertex : Addr
  gc_BadVertex : mg "BadVertex" = some (.ref c_BadVertex)
  c_BadPrice : Addr
  gc_BadPrice : mg "BadPrice" = some (.ref c_BadPrice)
  c_BadEdge : Addr
  gc_BadEdge : mg "BadEdge" = some (.ref c_BadEdge)
  c_TooMany : Addr
  gc_TooMany : mg "TooMany" = some (.ref c_TooMany)
  ex : ∀ c ∈ ecsX, ∀ Ca, mg c = some (.ref Ca) → ExF K xi.D xi.fI Ca
  exm : ∀ c ∈ ecsX, ∀ Ca, mg c = some (.ref Ca) → PySem.W.exmOne K (.ref Ca) (.ref xi.D) = some true
  is : ∀ c ∈ ecsX, ∀ Ca, mg c = some (.ref Ca) → ∀ x ∈ ecsX, ∀ Xa, mg x = some (.ref Xa) → PySem.W.kitOne K (.ref Ca) (.ref Xa) = some (decide (c = x))
  c_Network : Addr
  g_Network : mg "Network" = some (.ref c_Network)
  cl_Network : Cls K c_Network
  na_Network__edges : NoAttr K c_Network "_edges"
  na_Network__size : NoAttr K c_Network "_size"
  a_check_edge : Addr
  fd_check_edge : FuncData
  F_check_edge : FnP K "check_edge" s_check_edge a_check_edge fd_check_edge
  g_check_edge : mg "check_edge" = some (.ref a_check_edge)
  b_check_edge : Binds K fd_check_edge ["size", "edge", "number"] []
  a__law_draws : Addr
  fd__law_draws : FuncData
  F__law_draws : FnP K "_law_draws" s__law_draws a__law_draws fd__law_draws
  g__law_draws : mg "_law_draws" = some (.ref a__law_draws)
  b__law_draws : Binds K fd__law_draws ["_law_script"] []
  a__law_mix : Addr
  fd__law_mix : FuncData
  F__law_mix : FnP K "_law_mix" s__law_mix a__law_mix fd__law_mix
  g__law_mix : mg "_law_mix" = some (.ref a__law_mix)
  b__law_mix : Binds K fd__law_mix ["_law_draws_here", "_law_k", "_law_many"] []
  a__law_network : Addr
  fd__law_network : FuncData
  F__law_network : FnP K "_law_network" s__law_network a__law_network fd__law_network
  g__law_network : mg "_law_network" = some (.ref a__law_network)
  b__law_network : Binds K fd__law_network ["_law_draws_here", "_law_k", "_law_sizes", "_law_many", "_law_top"] []
  a_Network___init__ : Addr
  fd_Network___init__ : FuncData
  F_Network___init__ : FunD K "__init__" "Network.__init__" (defArgs s_Network___init__) (defBody s_Network___init__) (defScope s_Network___init__) [] [] a_Network___init__ fd_Network___init__
  b_Network___init__ : Binds K fd_Network___init__ ["self", "size", "edges"] []
  mk_Network : Mk K c_Network a_Network___init__
  a__law_made : Addr
  fd__law_made : FuncData
  F__law_made : FnP K "_law_made" s__law_made a__law_made fd__law_made
  g__law_made : mg "_law_made" = some (.ref a__law_made)
  b__law_made : Binds K fd__law_made ["_law_size", "_law_edges"] []
  a__law_due : Addr
  fd__law_due : FuncData
  F__law_due : FnP K "_law_due" s__law_due a__law_due fd__law_due
  g__law_due : mg "_law_due" = some (.ref a__law_due)
  b__law_due : Binds K fd__law_due ["_law_size", "_law_edges"] []
  a_Network_check_vertex : Addr
  fd_Network_check_vertex : FuncData
  F_Network_check_vertex : FunD K "check_vertex" "Network.check_vertex" (defArgs s_Network_check_vertex) (defBody s_Network_check_vertex) (defScope s_Network_check_vertex) [] [] a_Network_check_vertex fd_Network_check_vertex
  b_Network_check_vertex : Binds K fd_Network_check_vertex ["self", "vertex"] []
  me_Network_check_vertex : Meth K c_Network "check_vertex" a_Network_check_vertex
  a_Network_around : Addr
  fd_Network_around : FuncData
  F_Network_around : FunD K "around" "Network.around" (defArgs s_Network_around) (defBody s_Network_around) (defScope s_Network_around) [] [] a_Network_around fd_Network_around
  b_Network_around : Binds K fd_Network_around ["self", "vertex"] []
  me_Network_around : Meth K c_Network "around" a_Network_around
  a_Network_leaving : Addr
  fd_Network_leaving : FuncData
  F_Network_leaving : FunD K "leaving" "Network.leaving" (defArgs s_Network_leaving) (defBody s_Network_leaving) (defScope s_Network_leaving) [] [] a_Network_leaving fd_Network_leaving
  b_Network_leaving : Binds K fd_Network_leaving ["self", "vertex"] []
  me_Network_leaving : Meth K c_Network "leaving" a_Network_leaving
  a_Network_entering : Addr
  fd_Network_entering : FuncData
  F_Network_entering : FunD K "entering" "Network.entering" (defArgs s_Network_entering) (defBody s_Network_entering) (defScope s_Network_entering) [] [] a_Network_entering fd_Network_entering
  b_Network_entering : Binds K fd_Network_entering ["self", "vertex"] []
  me_Network_entering : Meth K c_Network "entering" a_Network_entering
  a_Network_with_price : Addr
  fd_Network_with_price : FuncData
  F_Network_with_price : FunD K "with_price" "Network.with_price" (defArgs s_Network_with_price) (defBody s_Network_with_price) (defScope s_Network_with_price) [] [] a_Network_with_price fd_Network_with_price
  b_Network_with_price : Binds K fd_Network_with_price ["self", "number", "price"] []
  me_Network_with_price : Meth K c_Network "with_price" a_Network_with_price
  a__law_refused : Addr
  fd__law_refused : FuncData
  F__law_refused : FnP K "_law_refused" s__law_refused a__law_refused fd__law_refused
  g__law_refused : mg "_law_refused" = some (.ref a__law_refused)
  b__law_refused : Binds K fd__law_refused ["_law_way", "_law_network_here", "_law_number", "_law_price"] []
  a_Network_size : Addr
  fd_Network_size : FuncData
  F_Network_size : FunD K "size" "Network.size" (defArgs s_Network_size) (defBody s_Network_size) (defScope s_Network_size) [] [] a_Network_size fd_Network_size
  b_Network_size : Binds K fd_Network_size ["self"] []
  me_Network_size : Meth K c_Network "size" a_Network_size
  a_Network_edges : Addr
  fd_Network_edges : FuncData
  F_Network_edges : FunD K "edges" "Network.edges" (defArgs s_Network_edges) (defBody s_Network_edges) (defScope s_Network_edges) [] [] a_Network_edges fd_Network_edges
  b_Network_edges : Binds K fd_Network_edges ["self"] []
  me_Network_edges : Meth K c_Network "edges" a_Network_edges
  a_Network_other_end : Addr
  fd_Network_other_end : FuncData
  F_Network_other_end : FunD K "other_end" "Network.other_end" (defArgs s_Network_other_end) (defBody s_Network_other_end) (defScope s_Network_other_end) [] [] a_Network_other_end fd_Network_other_end
  b_Network_other_end : Binds K fd_Network_other_end ["self", "number", "vertex"] []
  me_Network_other_end : Meth K c_Network "other_end" a_Network_other_end
  a__law_alike : Addr
  fd__law_alike : FuncData
  F__law_alike : FnP K "_law_alike" s__law_alike a__law_alike fd__law_alike
  g__law_alike : mg "_law_alike" = some (.ref a__law_alike)
  b__law_alike : Binds K fd__law_alike ["_law_network_here", "_law_size", "_law_edges"] []
  a__law_bad_ones : Addr
  fd__law_bad_ones : FuncData
  F__law_bad_ones : FnP K "_law_bad_ones" s__law_bad_ones a__law_bad_ones fd__law_bad_ones
  g__law_bad_ones : mg "_law_bad_ones" = some (.ref a__law_bad_ones)
  b__law_bad_ones : Binds K fd__law_bad_ones ["_law_draws_here", "_law_size", "_law_edges"] []
  a_law : Addr
  fd_law : FuncData
  F_law : FnP K "law" s_law a_law fd_law
  g_law : mg "law" = some (.ref a_law)
  b_law : Binds K fd_law ["_law_script"] []
  k_MOST_EDGES : ∃ t, mg "MOST_EDGES" = some (.int 200 t)
  k_MOST_PRICE : ∃ t, mg "MOST_PRICE" = some (.int 1048576 t)
  k_MOST_VERTICES : ∃ t, mg "MOST_VERTICES" = some (.int 40 t)
  z_abs : mg "abs" = none
  z_int : mg "int" = none
  z_isinstance : mg "isinstance" = none
  z_len : mg "len" = none
  z_list : mg "list" = none
  z_min : mg "min" = none
  z_range : mg "range" = none
  z_repr : mg "repr" = none
section
variable {P : Program} {w : World} {K : PySem.W.Frag} {mg : Str → Option Value} {base : Heap}
theorem ok_check_edge (T : Tp P K mg) : FnOk P w K mg base (L2.CX P w) 4 T.a_check_edge T.fd_check_edge ["size", "edge", "number"] (spD K mg (XO mg ecsX) [.fr, .fr, .fr] .fr m_check_edge) := by
  refine fnDX (N := N_check_edge) (pm := [.fr, .fr, .fr]) (Γl := [.fr, .fr, .fr]) T.F_check_edge sc_check_edge rfl rfl rfl fun cdv A outer s H E hr => ⟨_, (pss_cons (ps_asg (pv 1) (pg_tup rfl (pgs_cons (pg_name (i := 3) sc_check_edge.nd rfl (by first | exact Or.inl rfl | exact Or.inr rfl)) (pgs_cons (pg_name (i := 4) sc_check_edge.nd rfl (by first | exact Or.inl rfl | exact Or.inr rfl)) (pgs_cons (pg_name (i := 5) sc_check_edge.nd rfl (by first | exact Or.inl rfl | exact Or.inr rfl)) pgs_nil))))) (pss_cons (ps_if (PW.pt (pw_or (pt_not (pt_chain op_le op_lt pe_int (pv 3) (pv 0))) (pw_or (pt_not (pt_chain op_le op_lt pe_int (pv 4) (pv 0))) (pw_or1 (pt_cmpR (kx_eq (K := K) rfl hr.units) (pv 3) (pv 4) (nomark _)))))) (pss_one (kx_raise (K := K) (P := P) (mg := mg) rfl rfl rfl T.xi (T.ex _ (nth_mem 1 rfl) _ T.gc_BadVertex) hr (by decide) T.gc_BadVertex rfl rfl tk0 (pa_cons (pv 2) pa_nil))) pss_nil) (pss_one (ps_if (pt_not (pt_chain op_le op_le pe_int (pv 5) (pe_glob (v := (.int 1048576)) rfl T.k_MOST_PRICE.choose_spec ⟨_, rfl⟩))) (pss_one (kx_raise (K := K) (P := P) (mg := mg) rfl rfl rfl T.xi (T.ex _ (nth_mem 2 rfl) _ T.gc_BadPrice) hr (by decide) T.gc_BadPrice rfl rfl tk0 (pa_cons (pv 2) pa_nil))) pss_nil)))), fun Bp F0 => ⟨[.fr, .fr, .fr, .fr, .fr, .fr], ?_⟩⟩
  unfold b_check_edge
  exact (ss_seq (ss_asg (sx_of (se_var (i := 1) (m := .fr) rfl)) (sn_tup (m := .fr) (is := [3, 4, 5]) (Names.cons (Names.cons (Names.cons Names.nil))) (by decide) nioL) nx_tup) (ss_seq (ss_if (st_or (st_not (st_tt (se_chain os_le os_lt se_int (se_var (i := 3) (m := .fr) rfl) (se_var (i := 0) (m := .fr) rfl)))) (st_or (st_not (st_tt (se_chain os_le os_lt se_int (se_var (i := 4) (m := .fr) rfl) (se_var (i := 0) (m := .fr) rfl)))) (st_tt (se_op os_eq (se_var (i := 3) (m := .fr) rfl) (se_var (i := 4) (m := .fr) rfl))))) (ss_raise (c := "BadVertex") (ecs := ecsX) (Γ' := [.fr, .fr, .fr, .fr, .fr, .fr]) (sa_cons (se_var (i := 2) (m := .fr) rfl) sa_nil) (T.ex _ (nth_mem 1 rfl) _ T.gc_BadVertex) T.gc_BadVertex (nth_mem 1 rfl) hxI) ss_nil) (ss_if (st_not (st_tt (se_chain os_le os_le se_int (se_var (i := 5) (m := .fr) rfl) (se_const (m := .fr) rfl rfl)))) (ss_raise (c := "BadPrice") (ecs := ecsX) (Γ' := [.fr, .fr, .fr, .fr, .fr, .fr]) (sa_cons (se_var (i := 2) (m := .fr) rfl) sa_nil) (T.ex _ (nth_mem 2 rfl) _ T.gc_BadPrice) T.gc_BadPrice (nth_mem 2 rfl) hxI) ss_nil)))
theorem ok__law_draws (T : Tp P K mg) : FnOk P w K mg base CX0 1 T.a__law_draws T.fd__law_draws ["_law_script"] (spD K mg X0 [.sc] (.own .fr) m__law_draws) := by
  refine fnD (N := N__law_draws) (pm := [.sc]) (Γl := [(.own .fr), .fr, .fr, .fr, .fr]) T.F__law_draws sc__law_draws rfl rfl rfl fun cdv A outer s H E hr => ⟨_, (pss_cons (ps_set (i := 1) sc__law_draws.nd rfl (by first | exact Or.inl rfl | exact Or.inr rfl) (pe_lst pa_nil)) (pss_cons (ps_for PassesOwn.never rfl (pi_range1 rfl T.z_range (pa_cons (pe_callB (call_min2 rfl) (by rfl) T.z_min (by decide +kernel) (pa_cons pe_int (pa_cons (pe_callB (kx_len (K := K) rfl) (by rfl) T.z_len (by decide +kernel) (pa_cons (pv 0) pa_nil)) pa_nil))) pa_nil)) (pg_name (i := 2) sc__law_draws.nd rfl (by first | exact Or.inl rfl | exact Or.inr rfl)) (pss_cons (ps_set (i := 3) sc__law_draws.nd rfl (by first | exact Or.inl rfl | exact Or.inr rfl) (pe_callB call_abs (by rfl) T.z_abs (by decide +kernel) (pa_cons (pe_ix (kx_ix (K := K) rfl) (pv 0) (pv 2) (fun _ _ => rfl)) pa_nil))) (pss_one (ps_if (pt_cmpR op_ge (pv 3) (pe_op op_pow pe_int pe_int) (nomark _)) (pss_one (ps_for PassesOwn.never rfl (pi_range1 rfl T.z_range (pa_cons pe_int pa_nil)) (pg_name (i := 4) sc__law_draws.nd rfl (by first | exact Or.inl rfl | exact Or.inr rfl)) (pss_one (ps_if (pt_cmpR op_gt (pv 3) pe_int (nomark _)) (pss_cons (ps_expr (pe_bm PySem.F.plainAttrs_list PySem.F.slot_list_append PySem.F.type_list_append mt_append (pv 1) (pa_cons (pe_op op_modX (pe_callTy call_int1 (by rfl) T.z_int (by decide +kernel) (pa_cons (pv 3) pa_nil)) pe_int) pa_nil))) (pss_one (ps_set (i := 3) sc__law_draws.nd rfl (by first | exact Or.inl rfl | exact Or.inr rfl) (pe_op op_divX (pv 3) pe_int)))) pss_nil)))) (pss_cons (ps_set (i := 5) sc__law_draws.nd rfl (by first | exact Or.inl rfl | exact Or.inr rfl) (pe_op op_modX (pe_callTy call_int1 (by rfl) T.z_int (by decide +kernel) (pa_cons (pe_op op_addX (pe_op op_mulX (pv 3) pe_int) (pe_op op_mulX (pe_op op_addX (pv 2) pe_int) pe_int)) pa_nil)) pe_int)) (pss_cons (ps_set (i := 5) sc__law_draws.nd rfl (by first | exact Or.inl rfl | exact Or.inr rfl) (pe_op op_modX (pe_callTy call_int1 (by rfl) T.z_int (by decide +kernel) (pa_cons (pe_op op_addX (pe_op op_addX (pe_op op_mulX (pv 5) pe_int) (pe_op op_mulX pe_int (pv 2))) pe_int) pa_nil)) pe_int)) (pss_cons (ps_expr (pe_bm PySem.F.plainAttrs_list PySem.F.slot_list_append PySem.F.type_list_append mt_append (pv 1) (pa_cons (pe_op op_modX (pe_callTy call_int1 (by rfl) T.z_int (by decide +kernel) (pa_cons (pv 5) pa_nil)) pe_int) pa_nil))) (pss_one (ps_expr (pe_bm PySem.F.plainAttrs_list PySem.F.slot_list_append PySem.F.type_list_append mt_append (pv 1) (pa_cons (pe_op op_modX (pe_callTy call_int1 (by rfl) T.z_int (by decide +kernel) (pa_cons (pe_op op_divX (pv 5) pe_int) pa_nil)) pe_int) pa_nil))))))))))) (pss_one (ps_ret (pv 1))))), fun Bp F0 => ⟨[.sc, (.own .fr), .fr, .fr, .fr, .fr], ?_⟩⟩
  unfold b__law_draws
  exact (ss_seq (ss_set (i := 1) (m := (.own .fr)) (sx_of (se_lst (m := .fr) sa_nil (by decide))) (by decide) nio) (ss_seq (ss_for (si_rng1 (sa_cons (se_cb cs_min2 (sa_cons se_int (sa_cons (se_cb cs_len (sa_cons (se_var (i := 0) (m := .sc) rfl) sa_nil)) sa_nil))) sa_nil)) (sn_name (i := 2) (m := .fr) rfl nio) nx_name (ss_seq (ss_set (i := 3) (m := .fr) (sx_of (se_cb cs_abs (sa_cons (se_op os_ix (se_var (i := 0) (m := .sc) rfl) (se_var (i := 2) (m := .fr) rfl)) sa_nil))) (by decide) nio) (ss_if (st_tt (se_op os_ge (se_var (i := 3) (m := .fr) rfl) (se_op os_pow se_int se_int))) (ss_for (si_rng1 (sa_cons se_int sa_nil)) (sn_name (i := 4) (m := .fr) rfl nio) nx_name (ss_if (st_tt (se_op os_gt (se_var (i := 3) (m := .fr) rfl) se_int)) (ss_seq (ss_expr (sx_app (i := 1) (m := .fr) rfl (sx_of (se_op os_mod (se_cb cs_int (sa_cons (se_var (i := 3) (m := .fr) rfl) sa_nil)) se_int)) rfl)) (ss_set (i := 3) (m := .fr) (sx_of (se_op os_div (se_var (i := 3) (m := .fr) rfl) se_int)) (by decide) nio)) ss_nil)) (ss_seq (ss_set (i := 5) (m := .fr) (sx_of (se_op os_mod (se_cb cs_int (sa_cons (se_fr (se_op os_add (se_op os_mul (se_var (i := 3) (m := .fr) rfl) se_int) (se_op os_mul (se_fr (se_op os_add (se_var (i := 2) (m := .fr) rfl) se_int) rfl) se_int)) rfl) sa_nil)) se_int)) (by decide) nio) (ss_seq (ss_set (i := 5) (m := .fr) (sx_of (se_op os_mod (se_cb cs_int (sa_cons (se_fr (se_op os_add (se_fr (se_op os_add (se_op os_mul (se_var (i := 5) (m := .fr) rfl) se_int) (se_op os_mul se_int (se_var (i := 2) (m := .fr) rfl))) rfl) se_int) rfl) sa_nil)) se_int)) (by decide) nio) (ss_seq (ss_expr (sx_app (i := 1) (m := .fr) rfl (sx_of (se_op os_mod (se_cb cs_int (sa_cons (se_var (i := 5) (m := .fr) rfl) sa_nil)) se_int)) rfl)) (ss_expr (sx_app (i := 1) (m := .fr) rfl (sx_of (se_op os_mod (se_cb cs_int (sa_cons (se_op os_div (se_var (i := 5) (m := .fr) rfl) se_int) sa_nil)) se_int)) rfl)))))))) (ss_ret (Γ' := [.sc, (.own .fr), .fr, .fr, .fr, .fr]) (sx_move (i := 1) (m := (.own .fr)) rfl))))
theorem ok__law_mix (T : Tp P K mg) : FnOk P w K mg base CX0 1 T.a__law_mix T.fd__law_mix ["_law_draws_here", "_law_k", "_law_many"] (spD K mg X0 [.fr, .fr, .fr] .fr m__law_mix) := by
  refine fnD (N := N__law_mix) (pm := [.fr, .fr, .fr]) (Γl := [.fr]) T.F__law_mix sc__law_mix rfl rfl rfl fun cdv A outer s H E hr => ⟨_, (pss_cons (ps_set (i := 3) sc__law_mix.nd rfl (by first | exact Or.inl rfl | exact Or.inr rfl) pe_int) (pss_cons (ps_if (pt_cmpR op_gt (pe_callB (kx_len (K := K) rfl) (by rfl) T.z_len (by decide +kernel) (pa_cons (pv 0) pa_nil)) pe_int (nomark _)) (pss_one (ps_set (i := 3) sc__law_mix.nd rfl (by first | exact Or.inl rfl | exact Or.inr rfl) (pe_ix (kx_ix (K := K) rfl) (pv 0) (pe_op op_modX (pe_callTy call_int1 (by rfl) T.z_int (by decide +kernel) (pa_cons (pv 1) pa_nil)) (pe_callB (kx_len (K := K) rfl) (by rfl) T.z_len (by decide +kernel) (pa_cons (pv 0) pa_nil))) (fun _ _ => rfl)))) pss_nil) (pss_cons (ps_if (pt_cmpR op_lt (pv 1) (pe_callB (kx_len (K := K) rfl) (by rfl) T.z_len (by decide +kernel) (pa_cons (pv 0) pa_nil)) (nomark _)) (pss_one (ps_ret (pe_op op_modX (pe_callTy call_int1 (by rfl) T.z_int (by decide +kernel) (pa_cons (pv 3) pa_nil)) (pv 2)))) pss_nil) (pss_one (ps_ret (pe_op op_modX (pe_callTy call_int1 (by rfl) T.z_int (by decide +kernel) (pa_cons (pe_op op_divX (pe_callTy call_int1 (by rfl) T.z_int (by decide +kernel) (pa_cons (pe_op op_addX (pe_op op_mulX (pv 3) pe_int) (pe_op op_mulX (pv 1) pe_int)) pa_nil)) pe_int) pa_nil)) (pv 2))))))), fun Bp F0 => ⟨[.fr, .fr, .fr, .fr], ?_⟩⟩
  unfold b__law_mix
  exact (ss_seq (ss_set (i := 3) (m := .fr) (sx_of se_int) (by decide) nio) (ss_seq (ss_if (st_tt (se_op os_gt (se_cb cs_len (sa_cons (se_var (i := 0) (m := .fr) rfl) sa_nil)) se_int)) (ss_set (i := 3) (m := .fr) (sx_of (se_op os_ix (se_var (i := 0) (m := .fr) rfl) (se_op os_mod (se_cb cs_int (sa_cons (se_var (i := 1) (m := .fr) rfl) sa_nil)) (se_cb cs_len (sa_cons (se_var (i := 0) (m := .fr) rfl) sa_nil))))) (by decide) nio) ss_nil) (ss_seq (ss_if (st_tt (se_op os_lt (se_var (i := 1) (m := .fr) rfl) (se_cb cs_len (sa_cons (se_var (i := 0) (m := .fr) rfl) sa_nil)))) (ss_ret (Γ' := [.fr, .fr, .fr, .fr]) (sx_of (se_op os_mod (se_cb cs_int (sa_cons (se_var (i := 3) (m := .fr) rfl) sa_nil)) (se_var (i := 2) (m := .fr) rfl)))) ss_nil) (ss_ret (Γ' := [.fr, .fr, .fr, .fr]) (sx_of (se_op os_mod (se_cb cs_int (sa_cons (se_op os_div (se_cb cs_int (sa_cons (se_fr (se_op os_add (se_op os_mul (se_var (i := 3) (m := .fr) rfl) se_int) (se_op os_mul (se_var (i := 1) (m := .fr) rfl) se_int)) rfl) sa_nil)) se_int) sa_nil)) (se_var (i := 2) (m := .fr) rfl)))))))
theorem ok__law_network (T : Tp P K mg) : FnOk P w K mg base CX0 2 T.a__law_network T.fd__law_network ["_law_draws_here", "_law_k", "_law_sizes", "_law_many", "_law_top"] (spD K mg X0 [.fr, .fr, .fr, .fr, .fr] (.tu (.own .fr)) m__law_network) := by
  have G__law_mix := ok__law_mix (P := P) (w := w) (base := base) T
  refine fnD (N := N__law_network) (pm := [.fr, .fr, .fr, .fr, .fr]) (Γl := [.fr, (.own .fr), .fr, .fr, .fr]) T.F__law_network sc__law_network rfl rfl rfl fun cdv A outer s H E hr => ⟨_, (pss_cons (ps_set (i := 5) sc__law_network.nd rfl (by first | exact Or.inl rfl | exact Or.inr rfl) (pe_op op_addX pe_int (pe_call G__law_mix (hr.mono (by decide)) (by rfl) T.g__law_mix T.F__law_mix.kp T.b__law_mix .nil pass0 (pa_cons (pv 0) (pa_cons (pv 1) (pa_cons (pv 2) pa_nil)))))) (pss_cons (ps_set (i := 6) sc__law_network.nd rfl (by first | exact Or.inl rfl | exact Or.inr rfl) (pe_lst pa_nil)) (pss_cons (ps_if (pt_cmpR op_gt (pv 5) pe_int (nomark _)) (pss_one (ps_for PassesOwn.never rfl (pi_range1 rfl T.z_range (pa_cons (pe_call G__law_mix (hr.mono (by decide)) (by rfl) T.g__law_mix T.F__law_mix.kp T.b__law_mix .nil pass0 (pa_cons (pv 0) (pa_cons (pe_op op_addX (pv 1) pe_int) (pa_cons (pe_op op_addX (pv 3) pe_int) pa_nil)))) pa_nil)) (pg_name (i := 7) sc__law_network.nd rfl (by first | exact Or.inl rfl | exact Or.inr rfl)) (pss_cons (ps_set (i := 8) sc__law_network.nd rfl (by first | exact Or.inl rfl | exact Or.inr rfl) (pe_call G__law_mix (hr.mono (by decide)) (by rfl) T.g__law_mix T.F__law_mix.kp T.b__law_mix .nil pass0 (pa_cons (pv 0) (pa_cons (pe_op op_addX (pe_op op_addX (pv 1) pe_int) (pe_op op_mulX pe_int (pv 7))) (pa_cons (pv 5) pa_nil))))) (pss_cons (ps_set (i := 9) sc__law_network.nd rfl (by first | exact Or.inl rfl | exact Or.inr rfl) (pe_op op_modX (pe_callTy call_int1 (by rfl) T.z_int (by decide +kernel) (pa_cons (pe_op op_addX (pe_op op_addX (pv 8) pe_int) (pe_call G__law_mix (hr.mono (by decide)) (by rfl) T.g__law_mix T.F__law_mix.kp T.b__law_mix .nil pass0 (pa_cons (pv 0) (pa_cons (pe_op op_addX (pe_op op_addX (pv 1) pe_int) (pe_op op_mulX pe_int (pv 7))) (pa_cons (pe_op op_sub (pv 5) pe_int) pa_nil))))) pa_nil)) (pv 5))) (pss_one (ps_expr (pe_bm PySem.F.plainAttrs_list PySem.F.slot_list_append PySem.F.type_list_append mt_append (pv 6) (pa_cons (pe_tup (pa_cons (pv 8) (pa_cons (pv 9) (pa_cons (pe_call G__law_mix (hr.mono (by decide)) (by rfl) T.g__law_mix T.F__law_mix.kp T.b__law_mix .nil pass0 (pa_cons (pv 0) (pa_cons (pe_op op_addX (pe_op op_addX (pv 1) pe_int) (pe_op op_mulX pe_int (pv 7))) (pa_cons (pv 4) pa_nil)))) pa_nil)))) pa_nil)))))))) pss_nil) (pss_one (ps_ret (pe_tup (pa_cons (pv 5) (pa_cons (pv 6) pa_nil)))))))), fun Bp F0 => ⟨[.fr, .fr, .fr, .fr, .fr, .fr, (.own .fr), .fr, .fr, .fr], ?_⟩⟩
  unfold b__law_network
  exact (ss_seq (ss_set (i := 5) (m := .fr) (sx_of (se_fr (se_op os_add se_int (se_call (sa_cons (se_var (i := 0) (m := .fr) rfl) (sa_cons (se_var (i := 1) (m := .fr) rfl) (sa_cons (se_var (i := 2) (m := .fr) rfl) sa_nil))) hx0)) rfl)) (by decide) nio) (ss_seq (ss_set (i := 6) (m := (.own .fr)) (sx_of (se_lst (m := .fr) sa_nil (by decide))) (by decide) nio) (ss_seq (ss_if (st_tt (se_op os_gt (se_var (i := 5) (m := .fr) rfl) se_int)) (ss_for (si_rng1 (sa_cons (se_call (sa_cons (se_var (i := 0) (m := .fr) rfl) (sa_cons (se_fr (se_op os_add (se_var (i := 1) (m := .fr) rfl) se_int) rfl) (sa_cons (se_fr (se_op os_add (se_var (i := 3) (m := .fr) rfl) se_int) rfl) sa_nil))) hx0) sa_nil)) (sn_name (i := 7) (m := .fr) rfl nio) nx_name (ss_seq (ss_set (i := 8) (m := .fr) (sx_of (se_call (sa_cons (se_var (i := 0) (m := .fr) rfl) (sa_cons (se_fr (se_op os_add (se_fr (se_op os_add (se_var (i := 1) (m := .fr) rfl) se_int) rfl) (se_op os_mul se_int (se_var (i := 7) (m := .fr) rfl))) rfl) (sa_cons (se_var (i := 5) (m := .fr) rfl) sa_nil))) hx0)) (by decide) nio) (ss_seq (ss_set (i := 9) (m := .fr) (sx_of (se_op os_mod (se_cb cs_int (sa_cons (se_fr (se_op os_add (se_fr (se_op os_add (se_var (i := 8) (m := .fr) rfl) se_int) rfl) (se_call (sa_cons (se_var (i := 0) (m := .fr) rfl) (sa_cons (se_fr (se_op os_add (se_fr (se_op os_add (se_var (i := 1) (m := .fr) rfl) se_int) rfl) (se_op os_mul se_int (se_var (i := 7) (m := .fr) rfl))) rfl) (sa_cons (se_op os_sub (se_var (i := 5) (m := .fr) rfl) se_int) sa_nil))) hx0)) rfl) sa_nil)) (se_var (i := 5) (m := .fr) rfl))) (by decide) nio) (ss_expr (sx_app (i := 6) (m := .fr) rfl (sx_of (se_tup (sa_cons (se_var (i := 8) (m := .fr) rfl) (sa_cons (se_var (i := 9) (m := .fr) rfl) (sa_cons (se_call (sa_cons (se_var (i := 0) (m := .fr) rfl) (sa_cons (se_fr (se_op os_add (se_fr (se_op os_add (se_var (i := 1) (m := .fr) rfl) se_int) rfl) (se_op os_mul se_int (se_var (i := 7) (m := .fr) rfl))) rfl) (sa_cons (se_var (i := 4) (m := .fr) rfl) sa_nil))) hx0) sa_nil))) (by decide))) rfl))))) ss_nil) (ss_ret (Γ' := [.fr, .fr, .fr, .fr, .fr, .fr, (.own .fr), .fr, .fr, .fr]) (sx_tupM (m := (.own .fr)) (sxa_cons (sx_of (se_flat (m := (.own .fr)) (se_var (i := 5) (m := .fr) rfl) rfl rfl)) (sxa_cons (sx_move (i := 6) (m := (.own .fr)) rfl) sxa_nil)) (by decide))))))
theorem ok_Network___init__ (T : Tp P K mg) : FnOk P w K mg base (L2.CX P w) 5 T.a_Network___init__ T.fd_Network___init__ ["self", "size", "edges"] (spN K mg (XO mg ecsX) "Network" [.fr, .bo] m_Network___init__) := by
  have G_check_edge := ok_check_edge (P := P) (w := w) (base := base) T
  refine fnN (N := N_Network___init__) (pm := [.fr, .bo]) (Γl := [.fr]) T.F_Network___init__ sc_Network___init__ rfl rfl fun cdv A outer s H E hr => ⟨_, (pss_cons (ps_if (pt_not (pt_chain op_le op_le pe_int (pv 1) (pe_glob (v := (.int 40)) rfl T.k_MOST_VERTICES.choose_spec ⟨_, rfl⟩))) (pss_one (kx_raise (K := K) (P := P) (mg := mg) rfl rfl rfl T.xi (T.ex _ (nth_mem 0 rfl) _ T.gc_OutOfRange) hr (by decide) T.gc_OutOfRange rfl rfl tk0 (pa_cons (pv 1) pa_nil))) pss_nil) (pss_cons (ps_if (pt_cmpR op_gt (pe_callB (kx_len (K := K) rfl) (by rfl) T.z_len (by decide +kernel) (pa_cons (pv 2) pa_nil)) (pe_glob (v := (.int 200)) rfl T.k_MOST_EDGES.choose_spec ⟨_, rfl⟩) (nomark _)) (pss_one (kx_raise (K := K) (P := P) (mg := mg) rfl rfl rfl T.xi (T.ex _ (nth_mem 4 rfl) _ T.gc_TooMany) hr (by decide) T.gc_TooMany rfl rfl tk0 (pa_cons (pe_callB (kx_len (K := K) rfl) (by rfl) T.z_len (by decide +kernel) (pa_cons (pv 2) pa_nil)) pa_nil))) pss_nil) (pss_cons (ps_for (passes_of rfl) rfl (pi_range1 rfl T.z_range (pa_cons (pe_callB (kx_len (K := K) rfl) (by rfl) T.z_len (by decide +kernel) (pa_cons (pv 2) pa_nil)) pa_nil)) (pg_name (i := 3) sc_Network___init__.nd rfl (by first | exact Or.inl rfl | exact Or.inr rfl)) (pss_one (ps_expr (pe_call G_check_edge (hr.mono (by decide)) (by rfl) T.g_check_edge T.F_check_edge.kp T.b_check_edge .nil px0 (pa_cons (pv 1) (pa_cons (pe_ix (kx_ix (K := K) rfl) (pv 2) (pv 3) (fun _ _ => rfl)) (pa_cons (pv 3) pa_nil))))))) (pss_cons (ps_fld (pv 0) (pv 1) rfl) (pss_one (ps_fld (pv 0) (pe_callTy (kx_list (K := K) rfl) (by rfl) T.z_list (by decide +kernel) (pa_cons (pv 2) pa_nil)) rfl)))))), fun Bp F0 a => ⟨[(.ob .fr), .fr, .bo, .fr], ?_⟩⟩
  unfold b_Network___init__
  exact (ss_seq (ss_if (st_not (st_tt (se_chain os_le os_le se_int (se_var (i := 1) (m := .fr) rfl) (se_const (m := .fr) rfl rfl)))) (ss_raise (c := "OutOfRange") (ecs := ecsX) (Γ' := [(.ob .fr), .fr, .bo, .fr]) (sa_cons (se_var (i := 1) (m := .fr) rfl) sa_nil) (T.ex _ (nth_mem 0 rfl) _ T.gc_OutOfRange) T.gc_OutOfRange (nth_mem 0 rfl) hxI) ss_nil) (ss_seq (ss_if (st_tt (se_op os_gt (se_cb cs_len (sa_cons (se_var (i := 2) (m := .bo) rfl) sa_nil)) (se_const (m := .fr) rfl rfl))) (ss_raise (c := "TooMany") (ecs := ecsX) (Γ' := [(.ob .fr), .fr, .bo, .fr]) (sa_cons (se_cb cs_len (sa_cons (se_var (i := 2) (m := .bo) rfl) sa_nil)) sa_nil) (T.ex _ (nth_mem 4 rfl) _ T.gc_TooMany) T.gc_TooMany (nth_mem 4 rfl) hxI) ss_nil) (ss_seq (ss_for (si_rng1 (sa_cons (se_cb cs_len (sa_cons (se_var (i := 2) (m := .bo) rfl) sa_nil)) sa_nil)) (sn_name (i := 3) (m := .fr) rfl (nio1 (by decide))) nx_name (ss_expr (sx_of (se_call (sa_cons (se_var (i := 1) (m := .fr) rfl) (sa_cons (se_imm (se_op os_ix (se_var (i := 2) (m := .bo) rfl) (se_var (i := 3) (m := .fr) rfl)) rfl) (sa_cons (se_var (i := 3) (m := .fr) rfl) sa_nil))) hxI)))) (ss_seq (ss_setF (i := 0) (c := "Network") (f := "_size") rfl (sx_of (se_var (i := 1) (m := .fr) rfl)) T.g_Network T.cl_Network T.na_Network__size) (ss_setF (i := 0) (c := "Network") (f := "_edges") rfl (sx_of (se_fr (se_cb cs_list (sa_cons (se_immL (se_var (i := 2) (m := .bo) rfl) rfl) sa_nil)) rfl)) T.g_Network T.cl_Network T.na_Network__edges)))))
theorem ok__law_made (T : Tp P K mg) : FnOk P w K mg base CX0 7 T.a__law_made T.fd__law_made ["_law_size", "_law_edges"] (spD K mg X0 [.fr, .fr] .fr m__law_made) := by
  have G_Network___init__ := ok_Network___init__ (P := P) (w := w) (base := base) T
  refine fnD (N := N__law_made) (pm := [.fr, .fr]) (Γl := [.fr, .fr]) T.F__law_made sc__law_made rfl rfl rfl fun cdv A outer s H E hr => ⟨_, (pss_cons (kx_try (K := K) (n := 4) (i := 2) rfl rfl rfl sc__law_made.nd rfl rfl rfl rfl rfl T.gc_root (fun E1 pn xe hpE pwW => (pss_one (ps_expr (pe_make T.mk_Network G_Network___init__ (hr.mono (by decide)) (by rfl) T.g_Network T.b_Network___init__ .nil hpE (pa_cons (pv 0) (pa_cons (pv 1) pa_nil)))))) (fun a oe cls d pn hz hf => (pss_cons (ps_set (i := 3) sc__law_made.nd rfl (by first | exact Or.inl rfl | exact Or.inr rfl) (pe_lst (pa_cons (pe_callB (call_isX (D := T.xi.D) (fI := T.xi.fI) hz hf) (by rfl) T.z_isinstance (by decide +kernel) (pa_cons (pv 2) (pa_cons (pe_glob (v := .ref T.c_OutOfRange) rfl T.gc_OutOfRange rfl) pa_nil))) (pa_cons (pe_callB (call_isX (D := T.xi.D) (fI := T.xi.fI) hz hf) (by rfl) T.z_isinstance (by decide +kernel) (pa_cons (pv 2) (pa_cons (pe_glob (v := .ref T.c_TooMany) rfl T.gc_TooMany rfl) pa_nil))) (pa_cons (pe_callB (call_isX (D := T.xi.D) (fI := T.xi.fI) hz hf) (by rfl) T.z_isinstance (by decide +kernel) (pa_cons (pv 2) (pa_cons (pe_glob (v := .ref T.c_BadVertex) rfl T.gc_BadVertex rfl) pa_nil))) pa_nil))))) (pss_one (ps_ret (pe_tup (pa_cons (pe_op op_addX (pv 3) (pe_lst (pa_cons (pe_callB (call_isX (D := T.xi.D) (fI := T.xi.fI) hz hf) (by rfl) T.z_isinstance (by decide +kernel) (pa_cons (pv 2) (pa_cons (pe_glob (v := .ref T.c_BadPrice) rfl T.gc_BadPrice rfl) pa_nil))) pa_nil))) (pa_cons (pe_atX (D := T.xi.D) (fI := T.xi.fI) hz hf (pv 2)) pa_nil)))))))) (pss_one (ps_ret pe_non))), fun Bp F0 => ⟨[.fr, .fr, .fr, .fr], ?_⟩⟩
  unfold b__law_made
  exact (ss_seq (ss_try (ecs := ecsX) (n := 4) (i := 2) (Γh := [.fr, .fr, .fr, .fr]) (fun E => (ss_expr (sx_of (se_make (c := "Network") (sa_cons (se_var (i := 0) (m := .fr) rfl) (sa_cons (se_var (i := 1) (m := .fr) rfl) sa_nil)) T.g_Network hxI)))) (fun c hc Ca hm => T.exm c hc Ca hm) (fun F0 c d v a Ca dd hc hm hv hK => ⟨_, (ss_seq (ss_set (i := 3) (m := .fr) (sx_of (se_fr (se_lst (m := .fr) (sa_cons (se_isX (m := .fr) (i := 2) (Xa := T.c_OutOfRange) (T.ex c hc Ca hm) List.mem_cons_self hK (T.is c hc Ca hm "OutOfRange" (nth_mem 0 rfl) _ T.gc_OutOfRange)) (sa_cons (se_isX (m := .fr) (i := 2) (Xa := T.c_TooMany) (T.ex c hc Ca hm) List.mem_cons_self hK (T.is c hc Ca hm "TooMany" (nth_mem 4 rfl) _ T.gc_TooMany)) (sa_cons (se_isX (m := .fr) (i := 2) (Xa := T.c_BadVertex) (T.ex c hc Ca hm) List.mem_cons_self hK (T.is c hc Ca hm "BadVertex" (nth_mem 1 rfl) _ T.gc_BadVertex)) sa_nil))) (by decide)) rfl)) (by decide) (nio1 (by decide))) (ss_ret (Γ' := [.fr, .fr, .fr, .fr]) (sx_of (se_tup (sa_cons (se_fr (se_op os_add (se_var (i := 3) (m := .fr) rfl) (se_fr (se_lst (m := .fr) (sa_cons (se_isX (m := .fr) (i := 2) (Xa := T.c_BadPrice) (T.ex c hc Ca hm) List.mem_cons_self hK (T.is c hc Ca hm "BadPrice" (nth_mem 2 rfl) _ T.gc_BadPrice)) sa_nil) (by decide)) rfl)) rfl) (sa_cons (se_at (m := .fr) (i := 2) (T.ex c hc Ca hm) List.mem_cons_self hK hv) sa_nil)) (by decide)))))⟩) rfl rfl rfl) (ss_ret (Γ' := [.fr, .fr, .fr, .fr]) (sx_of se_non)))
theorem ok__law_due (T : Tp P K mg) : FnOk P w K mg base CX0 1 T.a__law_due T.fd__law_due ["_law_size", "_law_edges"] (spD K mg X0 [.fr, .fr] .fr m__law_due) := by
  refine fnD (N := N__law_due) (pm := [.fr, .fr]) (Γl := [.fr, .fr, .fr, .fr]) T.F__law_due sc__law_due rfl rfl rfl fun cdv A outer s H E hr => ⟨_, (pss_cons (ps_if (pt_not (pt_chain op_le op_le pe_int (pv 0) pe_int)) (pss_one (ps_ret (pe_tup (pa_cons (pe_lst (pa_cons pe_bl (pa_cons pe_bl (pa_cons pe_bl (pa_cons pe_bl pa_nil))))) (pa_cons (pv 0) pa_nil))))) pss_nil) (pss_cons (ps_if (pt_cmpR op_gt (pe_callB (kx_len (K := K) rfl) (by rfl) T.z_len (by decide +kernel) (pa_cons (pv 1) pa_nil)) pe_int (nomark _)) (pss_one (ps_ret (pe_tup (pa_cons (pe_lst (pa_cons pe_bl (pa_cons pe_bl (pa_cons pe_bl (pa_cons pe_bl pa_nil))))) (pa_cons (pe_callB (kx_len (K := K) rfl) (by rfl) T.z_len (by decide +kernel) (pa_cons (pv 1) pa_nil)) pa_nil))))) pss_nil) (pss_cons (ps_for PassesOwn.never rfl (pi_range1 rfl T.z_range (pa_cons (pe_callB (kx_len (K := K) rfl) (by rfl) T.z_len (by decide +kernel) (pa_cons (pv 1) pa_nil)) pa_nil)) (pg_name (i := 2) sc__law_due.nd rfl (by first | exact Or.inl rfl | exact Or.inr rfl)) (pss_cons (ps_asg (pe_ix (kx_ix (K := K) rfl) (pv 1) (pv 2) (fun _ _ => rfl)) (pg_tup rfl (pgs_cons (pg_name (i := 3) sc__law_due.nd rfl (by first | exact Or.inl rfl | exact Or.inr rfl)) (pgs_cons (pg_name (i := 4) sc__law_due.nd rfl (by first | exact Or.inl rfl | exact Or.inr rfl)) (pgs_cons (pg_name (i := 5) sc__law_due.nd rfl (by first | exact Or.inl rfl | exact Or.inr rfl)) pgs_nil))))) (pss_cons (ps_if (PW.pt (pw_or (pt_not (pt_chain op_le op_lt pe_int (pv 3) (pv 0))) (pw_or (pt_not (pt_chain op_le op_lt pe_int (pv 4) (pv 0))) (pw_or1 (pt_cmpR (kx_eq (K := K) rfl hr.units) (pv 3) (pv 4) (nomark _)))))) (pss_one (ps_ret (pe_tup (pa_cons (pe_lst (pa_cons pe_bl (pa_cons pe_bl (pa_cons pe_bl (pa_cons pe_bl pa_nil))))) (pa_cons (pv 2) pa_nil))))) pss_nil) (pss_one (ps_if (pt_not (pt_chain op_le op_le pe_int (pv 5) pe_int)) (pss_one (ps_ret (pe_tup (pa_cons (pe_lst (pa_cons pe_bl (pa_cons pe_bl (pa_cons pe_bl (pa_cons pe_bl pa_nil))))) (pa_cons (pv 2) pa_nil))))) pss_nil))))) (pss_one (ps_ret pe_non))))), fun Bp F0 => ⟨[.fr, .fr, .fr, .fr, .fr, .fr], ?_⟩⟩
  unfold b__law_due
  exact (ss_seq (ss_if (st_not (st_tt (se_chain os_le os_le se_int (se_var (i := 0) (m := .fr) rfl) se_int))) (ss_ret (Γ' := [.fr, .fr, .fr, .fr, .fr, .fr]) (sx_of (se_tup (sa_cons (se_fr (se_lst (m := .fr) (sa_cons se_bl (sa_cons se_bl (sa_cons se_bl (sa_cons se_bl sa_nil)))) (by decide)) rfl) (sa_cons (se_var (i := 0) (m := .fr) rfl) sa_nil)) (by decide)))) ss_nil) (ss_seq (ss_if (st_tt (se_op os_gt (se_cb cs_len (sa_cons (se_var (i := 1) (m := .fr) rfl) sa_nil)) se_int)) (ss_ret (Γ' := [.fr, .fr, .fr, .fr, .fr, .fr]) (sx_of (se_tup (sa_cons (se_fr (se_lst (m := .fr) (sa_cons se_bl (sa_cons se_bl (sa_cons se_bl (sa_cons se_bl sa_nil)))) (by decide)) rfl) (sa_cons (se_cb cs_len (sa_cons (se_var (i := 1) (m := .fr) rfl) sa_nil)) sa_nil)) (by decide)))) ss_nil) (ss_seq (ss_for (si_rng1 (sa_cons (se_cb cs_len (sa_cons (se_var (i := 1) (m := .fr) rfl) sa_nil)) sa_nil)) (sn_name (i := 2) (m := .fr) rfl nio) nx_name (ss_seq (ss_asg (sx_of (se_op os_ix (se_var (i := 1) (m := .fr) rfl) (se_var (i := 2) (m := .fr) rfl))) (sn_tup (m := .fr) (is := [3, 4, 5]) (Names.cons (Names.cons (Names.cons Names.nil))) (by decide) nioL) nx_tup) (ss_seq (ss_if (st_or (st_not (st_tt (se_chain os_le os_lt se_int (se_var (i := 3) (m := .fr) rfl) (se_var (i := 0) (m := .fr) rfl)))) (st_or (st_not (st_tt (se_chain os_le os_lt se_int (se_var (i := 4) (m := .fr) rfl) (se_var (i := 0) (m := .fr) rfl)))) (st_tt (se_op os_eq (se_var (i := 3) (m := .fr) rfl) (se_var (i := 4) (m := .fr) rfl))))) (ss_ret (Γ' := [.fr, .fr, .fr, .fr, .fr, .fr]) (sx_of (se_tup (sa_cons (se_fr (se_lst (m := .fr) (sa_cons se_bl (sa_cons se_bl (sa_cons se_bl (sa_cons se_bl sa_nil)))) (by decide)) rfl) (sa_cons (se_var (i := 2) (m := .fr) rfl) sa_nil)) (by decide)))) ss_nil) (ss_if (st_not (st_tt (se_chain os_le os_le se_int (se_var (i := 5) (m := .fr) rfl) se_int))) (ss_ret (Γ' := [.fr, .fr, .fr, .fr, .fr, .fr]) (sx_of (se_tup (sa_cons (se_fr (se_lst (m := .fr) (sa_cons se_bl (sa_cons se_bl (sa_cons se_bl (sa_cons se_bl sa_nil)))) (by decide)) rfl) (sa_cons (se_var (i := 2) (m := .fr) rfl) sa_nil)) (by decide)))) ss_nil)))) (ss_ret (Γ' := [.fr, .fr, .fr, .fr, .fr, .fr]) (sx_of se_non)))))
theorem ok_Network_check_vertex (T : Tp P K mg) : FnOk P w K mg base (L2.CX P w) 4 T.a_Network_check_vertex T.fd_Network_check_vertex ["self", "vertex"] (spD K mg (XO mg ecsX) [.fr, .fr] .fr m_Network_check_vertex) := by
  refine fnDX (N := N_Network_check_vertex) (pm := [.fr, .fr]) (Γl := []) T.F_Network_check_vertex sc_Network_check_vertex rfl rfl rfl fun cdv A outer s H E hr => ⟨_, (pss_one (ps_if (pt_not (pt_chain op_le op_lt pe_int (pv 1) (kx_fld (K := K) rfl (pv 0) (by rfl)))) (pss_one (kx_raise (K := K) (P := P) (mg := mg) rfl rfl rfl T.xi (T.ex _ (nth_mem 1 rfl) _ T.gc_BadVertex) hr (by decide) T.gc_BadVertex rfl rfl tk0 (pa_cons (pv 1) pa_nil))) pss_nil)), fun Bp F0 => ⟨[.fr, .fr], ?_⟩⟩
  unfold b_Network_check_vertex
  exact (ss_if (st_not (st_tt (se_chain os_le os_lt se_int (se_var (i := 1) (m := .fr) rfl) (se_fld (c := "Network") (f := "_size") (se_var (i := 0) (m := .fr) rfl) T.g_Network T.cl_Network T.na_Network__size)))) (ss_raise (c := "BadVertex") (ecs := ecsX) (Γ' := [.fr, .fr]) (sa_cons (se_var (i := 1) (m := .fr) rfl) sa_nil) (T.ex _ (nth_mem 1 rfl) _ T.gc_BadVertex) T.gc_BadVertex (nth_mem 1 rfl) hxI) ss_nil)
theorem ok_Network_around (T : Tp P K mg) : FnOk P w K mg base (L2.CX P w) 5 T.a_Network_around T.fd_Network_around ["self", "vertex"] (spD K mg (XO mg ecsX) [.fr, .fr] (.own .fr) m_Network_around) := by
  have G_Network_check_vertex := ok_Network_check_vertex (P := P) (w := w) (base := base) T
  refine fnDX (N := N_Network_around) (pm := [.fr, .fr]) (Γl := [.fr]) T.F_Network_around sc_Network_around rfl rfl rfl fun cdv A outer s H E hr => ⟨_, (pss_cons (ps_expr (pe_meth (pv 0) T.cl_Network T.me_Network_check_vertex G_Network_check_vertex (hr.mono (by decide)) T.b_Network_check_vertex .nil px0 (pa_cons (pv 1) pa_nil))) (pss_one (ps_ret (pe_lc (own := [("k", 2)]) (g := (L2.gName 2)) rfl sc_Network_around.nd (pi_range1 rfl T.z_range (pa_cons (pe_callB (kx_len (K := K) rfl) (by rfl) T.z_len (by decide +kernel) (pa_cons (kx_fld (K := K) rfl (pv 0) (by rfl)) pa_nil)) pa_nil)) (blkOk_by (own := [("k", 2)]) (N := N_Network_around) (sc := defScope s_Network_around) (by decide +kernel)) (fun _ _ _ _ _ => (pg_name (i := 2) sc_Network_around.nd rfl (by first | exact Or.inl rfl | exact Or.inr rfl))) (fun _ _ _ _ _ => pts_one (pt_cmpR (kx_in (K := K) rfl hr.units65) (pv 1) (pe_slice (kx_sl (K := K) rfl) (pe_ix (kx_ix (K := K) rfl) (kx_fld (K := K) rfl (pv 0) (by rfl)) (pv 2) (fun _ _ => rfl)) po_none (po_some pe_int)) (by rfl))) (fun _ _ _ _ _ => (pv 2)))))), fun Bp F0 => ⟨[.fr, .fr, .fr], ?_⟩⟩
  unfold b_Network_around
  exact (ss_seq (ss_expr (sx_of (se_meth (mn := "check_vertex") (se_var (i := 0) (m := .fr) rfl) (sa_cons (se_var (i := 1) (m := .fr) rfl) sa_nil) T.g_Network hxI))) (ss_ret (Γ' := [.fr, .fr, .fr]) (sx_of (se_lc (vs := [2]) (si_rng1 (sa_cons (se_cb cs_len (sa_cons (se_fld (c := "Network") (f := "_edges") (se_var (i := 0) (m := .fr) rfl) T.g_Network T.cl_Network T.na_Network__edges) sa_nil)) sa_nil)) (sn_name (i := 2) (m := .fr) rfl nio) (keeps_name (by decide)) nx_name (by decide) (st_tt (se_op os_in (se_var (i := 1) (m := .fr) rfl) (se_fr (se_sl (se_op os_ix (se_fld (c := "Network") (f := "_edges") (se_var (i := 0) (m := .fr) rfl) T.g_Network T.cl_Network T.na_Network__edges) (se_var (i := 2) (m := .fr) rfl)) so_none (so_some se_int)) rfl))) (se_var (i := 2) (m := .fr) rfl) rfl rfl nioL))))
theorem ok_Network_leaving (T : Tp P K mg) : FnOk P w K mg base (L2.CX P w) 5 T.a_Network_leaving T.fd_Network_leaving ["self", "vertex"] (spD K mg (XO mg ecsX) [.fr, .fr] (.own .fr) m_Network_leaving) := by
  have G_Network_check_vertex := ok_Network_check_vertex (P := P) (w := w) (base := base) T
  refine fnDX (N := N_Network_leaving) (pm := [.fr, .fr]) (Γl := [.fr]) T.F_Network_leaving sc_Network_leaving rfl rfl rfl fun cdv A outer s H E hr => ⟨_, (pss_cons (ps_expr (pe_meth (pv 0) T.cl_Network T.me_Network_check_vertex G_Network_check_vertex (hr.mono (by decide)) T.b_Network_check_vertex .nil px0 (pa_cons (pv 1) pa_nil))) (pss_one (ps_ret (pe_lc (own := [("k", 2)]) (g := (L2.gName 2)) rfl sc_Network_leaving.nd (pi_range1 rfl T.z_range (pa_cons (pe_callB (kx_len (K := K) rfl) (by rfl) T.z_len (by decide +kernel) (pa_cons (kx_fld (K := K) rfl (pv 0) (by rfl)) pa_nil)) pa_nil)) (blkOk_by (own := [("k", 2)]) (N := N_Network_leaving) (sc := defScope s_Network_leaving) (by decide +kernel)) (fun _ _ _ _ _ => (pg_name (i := 2) sc_Network_leaving.nd rfl (by first | exact Or.inl rfl | exact Or.inr rfl))) (fun _ _ _ _ _ => pts_one (pt_cmpR (kx_eq (K := K) rfl hr.units) (pe_ix (kx_ix (K := K) rfl) (pe_ix (kx_ix (K := K) rfl) (kx_fld (K := K) rfl (pv 0) (by rfl)) (pv 2) (fun _ _ => rfl)) pe_int (fun _ _ => rfl)) (pv 1) (nomark _))) (fun _ _ _ _ _ => (pv 2)))))), fun Bp F0 => ⟨[.fr, .fr, .fr], ?_⟩⟩
  unfold b_Network_leaving
  exact (ss_seq (ss_expr (sx_of (se_meth (mn := "check_vertex") (se_var (i := 0) (m := .fr) rfl) (sa_cons (se_var (i := 1) (m := .fr) rfl) sa_nil) T.g_Network hxI))) (ss_ret (Γ' := [.fr, .fr, .fr]) (sx_of (se_lc (vs := [2]) (si_rng1 (sa_cons (se_cb cs_len (sa_cons (se_fld (c := "Network") (f := "_edges") (se_var (i := 0) (m := .fr) rfl) T.g_Network T.cl_Network T.na_Network__edges) sa_nil)) sa_nil)) (sn_name (i := 2) (m := .fr) rfl nio) (keeps_name (by decide)) nx_name (by decide) (st_tt (se_op os_eq (se_op os_ix (se_op os_ix (se_fld (c := "Network") (f := "_edges") (se_var (i := 0) (m := .fr) rfl) T.g_Network T.cl_Network T.na_Network__edges) (se_var (i := 2) (m := .fr) rfl)) se_int) (se_var (i := 1) (m := .fr) rfl))) (se_var (i := 2) (m := .fr) rfl) rfl rfl nioL))))
theorem ok_Network_entering (T : Tp P K mg) : FnOk P w K mg base (L2.CX P w) 5 T.a_Network_entering T.fd_Network_entering ["self", "vertex"] (spD K mg (XO mg ecsX) [.fr, .fr] (.own .fr) m_Network_entering) := by
  have G_Network_check_vertex := ok_Network_check_vertex (P := P) (w := w) (base := base) T
  refine fnDX (N := N_Network_entering) (pm := [.fr, .fr]) (Γl := [.fr]) T.F_Network_entering sc_Network_entering rfl rfl rfl fun cdv A outer s H E hr => ⟨_, (pss_cons (ps_expr (pe_meth (pv 0) T.cl_Network T.me_Network_check_vertex G_Network_check_vertex (hr.mono (by decide)) T.b_Network_check_vertex .nil px0 (pa_cons (pv 1) pa_nil))) (pss_one (ps_ret (pe_lc (own := [("k", 2)]) (g := (L2.gName 2)) rfl sc_Network_entering.nd (pi_range1 rfl T.z_range (pa_cons (pe_callB (kx_len (K := K) rfl) (by rfl) T.z_len (by decide +kernel) (pa_cons (kx_fld (K := K) rfl (pv 0) (by rfl)) pa_nil)) pa_nil)) (blkOk_by (own := [("k", 2)]) (N := N_Network_entering) (sc := defScope s_Network_entering) (by decide +kernel)) (fun _ _ _ _ _ => (pg_name (i := 2) sc_Network_entering.nd rfl (by first | exact Or.inl rfl | exact Or.inr rfl))) (fun _ _ _ _ _ => pts_one (pt_cmpR (kx_eq (K := K) rfl hr.units) (pe_ix (kx_ix (K := K) rfl) (pe_ix (kx_ix (K := K) rfl) (kx_fld (K := K) rfl (pv 0) (by rfl)) (pv 2) (fun _ _ => rfl)) pe_int (fun _ _ => rfl)) (pv 1) (nomark _))) (fun _ _ _ _ _ => (pv 2)))))), fun Bp F0 => ⟨[.fr, .fr, .fr], ?_⟩⟩
  unfold b_Network_entering
  exact (ss_seq (ss_expr (sx_of (se_meth (mn := "check_vertex") (se_var (i := 0) (m := .fr) rfl) (sa_cons (se_var (i := 1) (m := .fr) rfl) sa_nil) T.g_Network hxI))) (ss_ret (Γ' := [.fr, .fr, .fr]) (sx_of (se_lc (vs := [2]) (si_rng1 (sa_cons (se_cb cs_len (sa_cons (se_fld (c := "Network") (f := "_edges") (se_var (i := 0) (m := .fr) rfl) T.g_Network T.cl_Network T.na_Network__edges) sa_nil)) sa_nil)) (sn_name (i := 2) (m := .fr) rfl nio) (keeps_name (by decide)) nx_name (by decide) (st_tt (se_op os_eq (se_op os_ix (se_op os_ix (se_fld (c := "Network") (f := "_edges") (se_var (i := 0) (m := .fr) rfl) T.g_Network T.cl_Network T.na_Network__edges) (se_var (i := 2) (m := .fr) rfl)) se_int) (se_var (i := 1) (m := .fr) rfl))) (se_var (i := 2) (m := .fr) rfl) rfl rfl nioL))))
theorem ok_Network_with_price (T : Tp P K mg) : FnOk P w K mg base (L2.CX P w) 7 T.a_Network_with_price T.fd_Network_with_price ["self", "number", "price"] (spD K mg (XO mg ecsX) [.fr, .fr, .fr] .fr m_Network_with_price) := by
  have G_check_edge := ok_check_edge (P := P) (w := w) (base := base) T
  have G_Network___init__ := ok_Network___init__ (P := P) (w := w) (base := base) T
  refine fnDX (N := N_Network_with_price) (pm := [.fr, .fr, .fr]) (Γl := [.fr, .fr, .fr, (.own .fr)]) T.F_Network_with_price sc_Network_with_price rfl rfl rfl fun cdv A outer s H E hr => ⟨_, (pss_cons (ps_if (pt_not (pt_chain op_le op_lt pe_int (pv 1) (pe_callB (kx_len (K := K) rfl) (by rfl) T.z_len (by decide +kernel) (pa_cons (kx_fld (K := K) rfl (pv 0) (by rfl)) pa_nil)))) (pss_one (kx_raise (K := K) (P := P) (mg := mg) rfl rfl rfl T.xi (T.ex _ (nth_mem 3 rfl) _ T.gc_BadEdge) hr (by decide) T.gc_BadEdge rfl rfl tk0 (pa_cons (pv 1) pa_nil))) pss_nil) (pss_cons (ps_asg (pe_ix (kx_ix (K := K) rfl) (kx_fld (K := K) rfl (pv 0) (by rfl)) (pv 1) (fun _ _ => rfl)) (pg_tup rfl (pgs_cons (pg_name (i := 3) sc_Network_with_price.nd rfl (by first | exact Or.inl rfl | exact Or.inr rfl)) (pgs_cons (pg_name (i := 4) sc_Network_with_price.nd rfl (by first | exact Or.inl rfl | exact Or.inr rfl)) (pgs_cons (pg_name (i := 5) sc_Network_with_price.nd rfl (by first | exact Or.inl rfl | exact Or.inr rfl)) pgs_nil))))) (pss_cons (ps_expr (pe_call G_check_edge (hr.mono (by decide)) (by rfl) T.g_check_edge T.F_check_edge.kp T.b_check_edge .nil px0 (pa_cons (kx_fld (K := K) rfl (pv 0) (by rfl)) (pa_cons (pe_tup (pa_cons (pv 3) (pa_cons (pv 4) (pa_cons (pv 2) pa_nil)))) (pa_cons (pv 1) pa_nil))))) (pss_cons (ps_set (i := 6) sc_Network_with_price.nd rfl (by first | exact Or.inl rfl | exact Or.inr rfl) (pe_callTy (kx_list (K := K) rfl) (by rfl) T.z_list (by decide +kernel) (pa_cons (kx_fld (K := K) rfl (pv 0) (by rfl)) pa_nil))) (pss_cons (ps_asg (pe_tup (pa_cons (pv 3) (pa_cons (pv 4) (pa_cons (pv 2) pa_nil)))) (pg_sub (pv 6) (pv 1) set_list)) (pss_one (ps_ret (pe_make T.mk_Network G_Network___init__ (hr.mono (by decide)) (by rfl) T.g_Network T.b_Network___init__ .nil px0 (pa_cons (kx_fld (K := K) rfl (pv 0) (by rfl)) (pa_cons (pv 6) pa_nil)))))))))), fun Bp F0 => ⟨[.fr, .fr, .fr, .fr, .fr, .fr, (.own .fr)], ?_⟩⟩
  unfold b_Network_with_price
  exact (ss_seq (ss_if (st_not (st_tt (se_chain os_le os_lt se_int (se_var (i := 1) (m := .fr) rfl) (se_cb cs_len (sa_cons (se_fld (c := "Network") (f := "_edges") (se_var (i := 0) (m := .fr) rfl) T.g_Network T.cl_Network T.na_Network__edges) sa_nil))))) (ss_raise (c := "BadEdge") (ecs := ecsX) (Γ' := [.fr, .fr, .fr, .fr, .fr, .fr, (.own .fr)]) (sa_cons (se_var (i := 1) (m := .fr) rfl) sa_nil) (T.ex _ (nth_mem 3 rfl) _ T.gc_BadEdge) T.gc_BadEdge (nth_mem 3 rfl) hxI) ss_nil) (ss_seq (ss_asg (sx_of (se_op os_ix (se_fld (c := "Network") (f := "_edges") (se_var (i := 0) (m := .fr) rfl) T.g_Network T.cl_Network T.na_Network__edges) (se_var (i := 1) (m := .fr) rfl))) (sn_tup (m := .fr) (is := [3, 4, 5]) (Names.cons (Names.cons (Names.cons Names.nil))) (by decide) nioL) nx_tup) (ss_seq (ss_expr (sx_of (se_call (sa_cons (se_fld (c := "Network") (f := "_size") (se_var (i := 0) (m := .fr) rfl) T.g_Network T.cl_Network T.na_Network__size) (sa_cons (se_tup (sa_cons (se_var (i := 3) (m := .fr) rfl) (sa_cons (se_var (i := 4) (m := .fr) rfl) (sa_cons (se_var (i := 2) (m := .fr) rfl) sa_nil))) (by decide)) (sa_cons (se_var (i := 1) (m := .fr) rfl) sa_nil))) hxI))) (ss_seq (ss_set (i := 6) (m := (.own .fr)) (sx_of (se_cb cs_list (sa_cons (se_fld (c := "Network") (f := "_edges") (se_var (i := 0) (m := .fr) rfl) T.g_Network T.cl_Network T.na_Network__edges) sa_nil))) (by decide) nio) (ss_seq (ss_seti (i := 6) (m := .fr) rfl (sx_of (se_tup (sa_cons (se_var (i := 3) (m := .fr) rfl) (sa_cons (se_var (i := 4) (m := .fr) rfl) (sa_cons (se_var (i := 2) (m := .fr) rfl) sa_nil))) (by decide))) (se_var (i := 1) (m := .fr) rfl) rfl) (ss_ret (Γ' := [.fr, .fr, .fr, .fr, .fr, .fr, (.own .fr)]) (sx_of (se_make (c := "Network") (sa_cons (se_fld (c := "Network") (f := "_size") (se_var (i := 0) (m := .fr) rfl) T.g_Network T.cl_Network T.na_Network__size) (sa_cons (se_var (i := 6) (m := (.own .fr)) rfl) sa_nil)) T.g_Network hxI))))))))
theorem ok__law_refused (T : Tp P K mg) : FnOk P w K mg base CX0 8 T.a__law_refused T.fd__law_refused ["_law_way", "_law_network_here", "_law_number", "_law_price"] (spD K mg X0 [.fr, .fr, .fr, .fr] .fr m__law_refused) := by
  have G_Network_around := ok_Network_around (P := P) (w := w) (base := base) T
  have G_Network_leaving := ok_Network_leaving (P := P) (w := w) (base := base) T
  have G_Network_entering := ok_Network_entering (P := P) (w := w) (base := base) T
  have G_Network_with_price := ok_Network_with_price (P := P) (w := w) (base := base) T
  refine fnD (N := N__law_refused) (pm := [.fr, .fr, .fr, .fr]) (Γl := [.fr]) T.F__law_refused sc__law_refused rfl rfl rfl fun cdv A outer s H E hr => ⟨_, (pss_cons (kx_try (K := K) (n := 5) (i := 4) rfl rfl rfl sc__law_refused.nd rfl rfl rfl rfl rfl T.gc_root (fun E1 pn xe hpE pwW => (pss_one (ps_if (pt_cmpR (kx_eq (K := K) rfl hr.units) (pv 0) pe_int (nomark _)) (pss_one (ps_expr (pe_meth (pv 1) T.cl_Network T.me_Network_around G_Network_around (hr.mono (by decide)) T.b_Network_around .nil hpE (pa_cons (pv 2) pa_nil)))) (pss_one (ps_if (pt_cmpR (kx_eq (K := K) rfl hr.units) (pv 0) pe_int (nomark _)) (pss_one (ps_expr (pe_meth (pv 1) T.cl_Network T.me_Network_leaving G_Network_leaving (hr.mono (by decide)) T.b_Network_leaving .nil hpE (pa_cons (pv 2) pa_nil)))) (pss_one (ps_if (pt_cmpR (kx_eq (K := K) rfl hr.units) (pv 0) pe_int (nomark _)) (pss_one (ps_expr (pe_meth (pv 1) T.cl_Network T.me_Network_entering G_Network_entering (hr.mono (by decide)) T.b_Network_entering .nil hpE (pa_cons (pv 2) pa_nil)))) (pss_one (ps_expr (pe_meth (pv 1) T.cl_Network T.me_Network_with_price G_Network_with_price (hr.mono (by decide)) T.b_Network_with_price .nil hpE (pa_cons (pv 2) (pa_cons (pv 3) pa_nil)))))))))))) (fun a oe cls d pn hz hf => (pss_one (ps_ret (pe_tup (pa_cons (pe_lst (pa_cons (pe_callB (call_isX (D := T.xi.D) (fI := T.xi.fI) hz hf) (by rfl) T.z_isinstance (by decide +kernel) (pa_cons (pv 4) (pa_cons (pe_glob (v := .ref T.c_BadVertex) rfl T.gc_BadVertex rfl) pa_nil))) (pa_cons (pe_callB (call_isX (D := T.xi.D) (fI := T.xi.fI) hz hf) (by rfl) T.z_isinstance (by decide +kernel) (pa_cons (pv 4) (pa_cons (pe_glob (v := .ref T.c_BadEdge) rfl T.gc_BadEdge rfl) pa_nil))) (pa_cons (pe_callB (call_isX (D := T.xi.D) (fI := T.xi.fI) hz hf) (by rfl) T.z_isinstance (by decide +kernel) (pa_cons (pv 4) (pa_cons (pe_glob (v := .ref T.c_BadPrice) rfl T.gc_BadPrice rfl) pa_nil))) pa_nil)))) (pa_cons (pe_atX (D := T.xi.D) (fI := T.xi.fI) hz hf (pv 4)) pa_nil))))))) (pss_one (ps_ret pe_non))), fun Bp F0 => ⟨[.fr, .fr, .fr, .fr, .fr], ?_⟩⟩
  unfold b__law_refused
  exact (ss_seq (ss_try (ecs := ecsX) (n := 5) (i := 4) (Γh := [.fr, .fr, .fr, .fr, .fr]) (fun E => (ss_if (st_tt (se_op os_eq (se_var (i := 0) (m := .fr) rfl) se_int)) (ss_expr (sx_of (se_meth (mn := "around") (se_var (i := 1) (m := .fr) rfl) (sa_cons (se_var (i := 2) (m := .fr) rfl) sa_nil) T.g_Network hxI))) (ss_if (st_tt (se_op os_eq (se_var (i := 0) (m := .fr) rfl) se_int)) (ss_expr (sx_of (se_meth (mn := "leaving") (se_var (i := 1) (m := .fr) rfl) (sa_cons (se_var (i := 2) (m := .fr) rfl) sa_nil) T.g_Network hxI))) (ss_if (st_tt (se_op os_eq (se_var (i := 0) (m := .fr) rfl) se_int)) (ss_expr (sx_of (se_meth (mn := "entering") (se_var (i := 1) (m := .fr) rfl) (sa_cons (se_var (i := 2) (m := .fr) rfl) sa_nil) T.g_Network hxI))) (ss_expr (sx_of (se_meth (mn := "with_price") (se_var (i := 1) (m := .fr) rfl) (sa_cons (se_var (i := 2) (m := .fr) rfl) (sa_cons (se_var (i := 3) (m := .fr) rfl) sa_nil)) T.g_Network hxI))))))) (fun c hc Ca hm => T.exm c hc Ca hm) (fun F0 c d v a Ca dd hc hm hv hK => ⟨_, (ss_ret (Γ' := [.fr, .fr, .fr, .fr, .fr]) (sx_of (se_tup (sa_cons (se_fr (se_lst (m := .fr) (sa_cons (se_isX (m := .fr) (i := 4) (Xa := T.c_BadVertex) (T.ex c hc Ca hm) List.mem_cons_self hK (T.is c hc Ca hm "BadVertex" (nth_mem 1 rfl) _ T.gc_BadVertex)) (sa_cons (se_isX (m := .fr) (i := 4) (Xa := T.c_BadEdge) (T.ex c hc Ca hm) List.mem_cons_self hK (T.is c hc Ca hm "BadEdge" (nth_mem 3 rfl) _ T.gc_BadEdge)) (sa_cons (se_isX (m := .fr) (i := 4) (Xa := T.c_BadPrice) (T.ex c hc Ca hm) List.mem_cons_self hK (T.is c hc Ca hm "BadPrice" (nth_mem 2 rfl) _ T.gc_BadPrice)) sa_nil))) (by decide)) rfl) (sa_cons (se_at (m := .fr) (i := 4) (T.ex c hc Ca hm) List.mem_cons_self hK hv) sa_nil)) (by decide))))⟩) rfl rfl rfl) (ss_ret (Γ' := [.fr, .fr, .fr, .fr, .fr]) (sx_of se_non)))
theorem ok_Network_size (T : Tp P K mg) : FnOk P w K mg base CX0 1 T.a_Network_size T.fd_Network_size ["self"] (spD K mg X0 [.fr] .fr m_Network_size) := by
  refine fnD (N := N_Network_size) (pm := [.fr]) (Γl := []) T.F_Network_size sc_Network_size rfl rfl rfl fun cdv A outer s H E hr => ⟨_, (pss_one (ps_ret (kx_fld (K := K) rfl (pv 0) (by rfl)))), fun Bp F0 => ⟨[.fr], ?_⟩⟩
  unfold b_Network_size
  exact (ss_ret (Γ' := [.fr]) (sx_of (se_fld (c := "Network") (f := "_size") (se_var (i := 0) (m := .fr) rfl) T.g_Network T.cl_Network T.na_Network__size)))
theorem ok_Network_edges (T : Tp P K mg) : FnOk P w K mg base CX0 1 T.a_Network_edges T.fd_Network_edges ["self"] (spD K mg X0 [.fr] (.own .fr) m_Network_edges) := by
  refine fnD (N := N_Network_edges) (pm := [.fr]) (Γl := []) T.F_Network_edges sc_Network_edges rfl rfl rfl fun cdv A outer s H E hr => ⟨_, (pss_one (ps_ret (pe_callTy (kx_list (K := K) rfl) (by rfl) T.z_list (by decide +kernel) (pa_cons (kx_fld (K := K) rfl (pv 0) (by rfl)) pa_nil)))), fun Bp F0 => ⟨[.fr], ?_⟩⟩
  unfold b_Network_edges
  exact (ss_ret (Γ' := [.fr]) (sx_of (se_cb cs_list (sa_cons (se_fld (c := "Network") (f := "_edges") (se_var (i := 0) (m := .fr) rfl) T.g_Network T.cl_Network T.na_Network__edges) sa_nil))))
theorem ok_Network_other_end (T : Tp P K mg) : FnOk P w K mg base CX0 1 T.a_Network_other_end T.fd_Network_other_end ["self", "number", "vertex"] (spD K mg X0 [.fr, .fr, .fr] .fr m_Network_other_end) := by
  refine fnD (N := N_Network_other_end) (pm := [.fr, .fr, .fr]) (Γl := [.fr, .fr, .fr]) T.F_Network_other_end sc_Network_other_end rfl rfl rfl fun cdv A outer s H E hr => ⟨_, (pss_cons (ps_asg (pe_ix (kx_ix (K := K) rfl) (kx_fld (K := K) rfl (pv 0) (by rfl)) (pv 1) (fun _ _ => rfl)) (pg_tup rfl (pgs_cons (pg_name (i := 3) sc_Network_other_end.nd rfl (by first | exact Or.inl rfl | exact Or.inr rfl)) (pgs_cons (pg_name (i := 4) sc_Network_other_end.nd rfl (by first | exact Or.inl rfl | exact Or.inr rfl)) (pgs_cons (pg_name (i := 5) sc_Network_other_end.nd rfl (by first | exact Or.inl rfl | exact Or.inr rfl)) pgs_nil))))) (pss_one (ps_ret (pe_op op_sub (pe_op op_addX (pv 3) (pv 4)) (pv 2))))), fun Bp F0 => ⟨[.fr, .fr, .fr, .fr, .fr, .fr], ?_⟩⟩
  unfold b_Network_other_end
  exact (ss_seq (ss_asg (sx_of (se_op os_ix (se_fld (c := "Network") (f := "_edges") (se_var (i := 0) (m := .fr) rfl) T.g_Network T.cl_Network T.na_Network__edges) (se_var (i := 1) (m := .fr) rfl))) (sn_tup (m := .fr) (is := [3, 4, 5]) (Names.cons (Names.cons (Names.cons Names.nil))) (by decide) nioL) nx_tup) (ss_ret (Γ' := [.fr, .fr, .fr, .fr, .fr, .fr]) (sx_of (se_op os_sub (se_fr (se_op os_add (se_var (i := 3) (m := .fr) rfl) (se_var (i := 4) (m := .fr) rfl)) rfl) (se_var (i := 2) (m := .fr) rfl)))))
theorem ok__law_alike (T : Tp P K mg) : FnOk P w K mg base CX0 6 T.a__law_alike T.fd__law_alike ["_law_network_here", "_law_size", "_law_edges"] (spD K mg X0 [.fr, .fr, .fr] .fr m__law_alike) := by
  have G_Network_size := ok_Network_size (P := P) (w := w) (base := base) T
  have G_Network_edges := ok_Network_edges (P := P) (w := w) (base := base) T
  have G_Network_around := ok_Network_around (P := P) (w := w) (base := base) T
  have G_Network_leaving := ok_Network_leaving (P := P) (w := w) (base := base) T
  have G_Network_entering := ok_Network_entering (P := P) (w := w) (base := base) T
  have G_Network_other_end := ok_Network_other_end (P := P) (w := w) (base := base) T
  refine fnD (N := N__law_alike) (pm := [.fr, .fr, .fr]) (Γl := [.fr, .fr, .fr]) T.F__law_alike sc__law_alike rfl rfl rfl fun cdv A outer s H E hr => ⟨_, (pss_cons (ps_if (PW.pt (pw_or (pt_cmpR (kx_ne (K := K) rfl hr.units) (pe_meth0 (pv 0) T.cl_Network T.me_Network_size G_Network_size (hr.mono (by decide)) T.b_Network_size .nil pass0) (pv 1) (nomark _)) (pw_or1 (pt_cmpR (kx_ne (K := K) rfl hr.units) (pe_meth0 (pv 0) T.cl_Network T.me_Network_edges G_Network_edges (hr.mono (by decide)) T.b_Network_edges .nil pass0) (pv 2) (nomark _))))) (pss_one (ps_ret pe_bl)) pss_nil) (pss_cons (ps_for PassesOwn.never rfl (pi_range1 rfl T.z_range (pa_cons (pv 1) pa_nil)) (pg_name (i := 3) sc__law_alike.nd rfl (by first | exact Or.inl rfl | exact Or.inr rfl)) (pss_cons (ps_setLc (i := 4) (own := [("_law_k", 5)]) (g := (L2.gName 5)) rfl sc__law_alike.nd rfl rfl (sw_true rfl rfl rfl (by decide +kernel)) (pi_range1 rfl T.z_range (pa_cons (pe_callB (kx_len (K := K) rfl) (by rfl) T.z_len (by decide +kernel) (pa_cons (pv 2) pa_nil)) pa_nil)) (blkOk_by (own := [("_law_k", 5)]) (N := N__law_alike) (sc := defScope s__law_alike) (by decide +kernel)) (fun _ _ _ _ _ => (pg_name (i := 5) sc__law_alike.nd rfl (by first | exact Or.inl rfl | exact Or.inr rfl))) (fun _ _ _ _ _ => pts_one (pt_cmpR (kx_in (K := K) rfl hr.units65) (pv 3) (pe_slice (kx_sl (K := K) rfl) (pe_ix (kx_ix (K := K) rfl) (pv 2) (pv 5) (fun _ _ => rfl)) po_none (po_some pe_int)) (by rfl))) (fun _ _ _ _ _ => (pv 5))) (pss_cons (ps_if (pt_cmpR (kx_ne (K := K) rfl hr.units) (pe_meth (pv 0) T.cl_Network T.me_Network_around G_Network_around (hr.mono (by decide)) T.b_Network_around .nil passN (pa_cons (pv 3) pa_nil)) (pv 4) (nomark _)) (pss_one (ps_ret pe_bl)) pss_nil) (pss_cons (ps_if (pt_cmpR (kx_ne (K := K) rfl hr.units) (pe_meth (pv 0) T.cl_Network T.me_Network_leaving G_Network_leaving (hr.mono (by decide)) T.b_Network_leaving .nil passN (pa_cons (pv 3) pa_nil)) (pe_lc (own := [("_law_k", 5)]) (g := (L2.gName 5)) rfl sc__law_alike.nd (kx_seq (K := K) rfl (pv 4)) (blkOk_by (own := [("_law_k", 5)]) (N := N__law_alike) (sc := defScope s__law_alike) (by decide +kernel)) (fun _ _ _ _ _ => (pg_name (i := 5) sc__law_alike.nd rfl (by first | exact Or.inl rfl | exact Or.inr rfl))) (fun _ _ _ _ _ => pts_one (pt_cmpR (kx_eq (K := K) rfl hr.units) (pe_ix (kx_ix (K := K) rfl) (pe_ix (kx_ix (K := K) rfl) (pv 2) (pv 5) (fun _ _ => rfl)) pe_int (fun _ _ => rfl)) (pv 3) (nomark _))) (fun _ _ _ _ _ => (pv 5))) (nomark _)) (pss_one (ps_ret pe_bl)) pss_nil) (pss_cons (ps_if (pt_cmpR (kx_ne (K := K) rfl hr.units) (pe_meth (pv 0) T.cl_Network T.me_Network_entering G_Network_entering (hr.mono (by decide)) T.b_Network_entering .nil passN (pa_cons (pv 3) pa_nil)) (pe_lc (own := [("_law_k", 5)]) (g := (L2.gName 5)) rfl sc__law_alike.nd (kx_seq (K := K) rfl (pv 4)) (blkOk_by (own := [("_law_k", 5)]) (N := N__law_alike) (sc := defScope s__law_alike) (by decide +kernel)) (fun _ _ _ _ _ => (pg_name (i := 5) sc__law_alike.nd rfl (by first | exact Or.inl rfl | exact Or.inr rfl))) (fun _ _ _ _ _ => pts_one (pt_cmpR (kx_eq (K := K) rfl hr.units) (pe_ix (kx_ix (K := K) rfl) (pe_ix (kx_ix (K := K) rfl) (pv 2) (pv 5) (fun _ _ => rfl)) pe_int (fun _ _ => rfl)) (pv 3) (nomark _))) (fun _ _ _ _ _ => (pv 5))) (nomark _)) (pss_one (ps_ret pe_bl)) pss_nil) (pss_one (ps_for PassesOwn.never rfl (kx_seq (K := K) rfl (pv 4)) (pg_name (i := 5) sc__law_alike.nd rfl (by first | exact Or.inl rfl | exact Or.inr rfl)) (pss_one (ps_if (pt_cmpR (kx_ne (K := K) rfl hr.units) (pe_meth (pv 0) T.cl_Network T.me_Network_other_end G_Network_other_end (hr.mono (by decide)) T.b_Network_other_end .nil pass0 (pa_cons (pv 5) (pa_cons (pv 3) pa_nil))) (pe_op op_sub (pe_op op_addX (pe_ix (kx_ix (K := K) rfl) (pe_ix (kx_ix (K := K) rfl) (pv 2) (pv 5) (fun _ _ => rfl)) pe_int (fun _ _ => rfl)) (pe_ix (kx_ix (K := K) rfl) (pe_ix (kx_ix (K := K) rfl) (pv 2) (pv 5) (fun _ _ => rfl)) pe_int (fun _ _ => rfl))) (pv 3)) (nomark _)) (pss_one (ps_ret pe_bl)) pss_nil))))))))) (pss_one (ps_ret pe_bl)))), fun Bp F0 => ⟨[.fr, .fr, .fr, .fr, .fr, .fr], ?_⟩⟩
  unfold b__law_alike
  exact (ss_seq (ss_if (st_or (st_tt (se_op os_ne (se_meth (mn := "size") (se_var (i := 0) (m := .fr) rfl) sa_nil T.g_Network hx0) (se_var (i := 1) (m := .fr) rfl))) (st_tt (se_op os_ne (se_fr (se_meth (mn := "edges") (se_var (i := 0) (m := .fr) rfl) sa_nil T.g_Network hx0) rfl) (se_var (i := 2) (m := .fr) rfl)))) (ss_ret (Γ' := [.fr, .fr, .fr, .fr, .fr, .fr]) (sx_of se_bl)) ss_nil) (ss_seq (ss_for (si_rng1 (sa_cons (se_var (i := 1) (m := .fr) rfl) sa_nil)) (sn_name (i := 3) (m := .fr) rfl nio) nx_name (ss_seq (ss_set (i := 4) (sx_of (se_fr (se_lc (vs := [5]) (si_rng1 (sa_cons (se_cb cs_len (sa_cons (se_var (i := 2) (m := .fr) rfl) sa_nil)) sa_nil)) (sn_name (i := 5) (m := .fr) rfl nio) (keeps_name (by decide)) nx_name (by decide) (st_tt (se_op os_in (se_var (i := 3) (m := .fr) rfl) (se_fr (se_sl (se_op os_ix (se_var (i := 2) (m := .fr) rfl) (se_var (i := 5) (m := .fr) rfl)) so_none (so_some se_int)) rfl))) (se_var (i := 5) (m := .fr) rfl) rfl rfl nioL) rfl)) (by decide) nio) (ss_seq (ss_if (st_tt (se_op os_ne (se_fr (se_meth (mn := "around") (se_var (i := 0) (m := .fr) rfl) (sa_cons (se_var (i := 3) (m := .fr) rfl) sa_nil) T.g_Network hxN) rfl) (se_var (i := 4) (m := .fr) rfl))) (ss_ret (Γ' := [.fr, .fr, .fr, .fr, .fr, .fr]) (sx_of se_bl)) ss_nil) (ss_seq (ss_if (st_tt (se_op os_ne (se_fr (se_meth (mn := "leaving") (se_var (i := 0) (m := .fr) rfl) (sa_cons (se_var (i := 3) (m := .fr) rfl) sa_nil) T.g_Network hxN) rfl) (se_fr (se_lc (vs := [5]) (si_seqC (se_var (i := 4) (m := .fr) rfl)) (sn_name (i := 5) (m := .fr) rfl nio) (keeps_name (by decide)) nx_name (by decide) (st_tt (se_op os_eq (se_op os_ix (se_op os_ix (se_var (i := 2) (m := .fr) rfl) (se_var (i := 5) (m := .fr) rfl)) se_int) (se_var (i := 3) (m := .fr) rfl))) (se_var (i := 5) (m := .fr) rfl) rfl rfl nioL) rfl))) (ss_ret (Γ' := [.fr, .fr, .fr, .fr, .fr, .fr]) (sx_of se_bl)) ss_nil) (ss_seq (ss_if (st_tt (se_op os_ne (se_fr (se_meth (mn := "entering") (se_var (i := 0) (m := .fr) rfl) (sa_cons (se_var (i := 3) (m := .fr) rfl) sa_nil) T.g_Network hxN) rfl) (se_fr (se_lc (vs := [5]) (si_seqC (se_var (i := 4) (m := .fr) rfl)) (sn_name (i := 5) (m := .fr) rfl nio) (keeps_name (by decide)) nx_name (by decide) (st_tt (se_op os_eq (se_op os_ix (se_op os_ix (se_var (i := 2) (m := .fr) rfl) (se_var (i := 5) (m := .fr) rfl)) se_int) (se_var (i := 3) (m := .fr) rfl))) (se_var (i := 5) (m := .fr) rfl) rfl rfl nioL) rfl))) (ss_ret (Γ' := [.fr, .fr, .fr, .fr, .fr, .fr]) (sx_of se_bl)) ss_nil) (ss_for (si_seqS (se_var (i := 4) (m := .fr) rfl)) (sn_name (i := 5) (m := .fr) rfl nio) nx_name (ss_if (st_tt (se_op os_ne (se_meth (mn := "other_end") (se_var (i := 0) (m := .fr) rfl) (sa_cons (se_var (i := 5) (m := .fr) rfl) (sa_cons (se_var (i := 3) (m := .fr) rfl) sa_nil)) T.g_Network hx0) (se_op os_sub (se_fr (se_op os_add (se_op os_ix (se_op os_ix (se_var (i := 2) (m := .fr) rfl) (se_var (i := 5) (m := .fr) rfl)) se_int) (se_op os_ix (se_op os_ix (se_var (i := 2) (m := .fr) rfl) (se_var (i := 5) (m := .fr) rfl)) se_int)) rfl) (se_var (i := 3) (m := .fr) rfl)))) (ss_ret (Γ' := [.fr, .fr, .fr, .fr, .fr, .fr]) (sx_of se_bl)) ss_nil))))))) (ss_ret (Γ' := [.fr, .fr, .fr, .fr, .fr, .fr]) (sx_of se_bl))))
theorem ok__law_bad_ones (T : Tp P K mg) : FnOk P w K mg base CX0 2 T.a__law_bad_ones T.fd__law_bad_ones ["_law_draws_here", "_law_size", "_law_edges"] (spD K mg X0 [.fr, .fr, .fr] (.own .fr) m__law_bad_ones) := by
  have G__law_mix := ok__law_mix (P := P) (w := w) (base := base) T
  refine fnD (N := N__law_bad_ones) (pm := [.fr, .fr, .fr]) (Γl := [(.own .fr), .fr, .fr, .fr, .fr, .fr, .fr, .fr, .fr]) T.F__law_bad_ones sc__law_bad_ones rfl rfl rfl fun cdv A outer s H E hr => ⟨_, (pss_cons (ps_set (i := 3) sc__law_bad_ones.nd rfl (by first | exact Or.inl rfl | exact Or.inr rfl) (pe_lst (pa_cons (pe_tup (pa_cons (pe_op op_sub (pe_call G__law_mix (hr.mono (by decide)) (by rfl) T.g__law_mix T.F__law_mix.kp T.b__law_mix .nil pass0 (pa_cons (pv 0) (pa_cons pe_int (pa_cons pe_int pa_nil)))) pe_int) (pa_cons (pv 2) pa_nil))) (pa_cons (pe_tup (pa_cons (pe_op op_addX pe_int (pe_call G__law_mix (hr.mono (by decide)) (by rfl) T.g__law_mix T.F__law_mix.kp T.b__law_mix .nil pass0 (pa_cons (pv 0) (pa_cons pe_int (pa_cons pe_int pa_nil))))) (pa_cons (pv 2) pa_nil))) (pa_cons (pe_tup (pa_cons (pv 1) (pa_cons (pe_op op_addX (pv 2) (pe_op op_rep (pe_lst (pa_cons (pe_tup (pa_cons pe_int (pa_cons pe_int (pa_cons pe_int pa_nil)))) pa_nil)) pe_int)) pa_nil))) pa_nil))))) (pss_cons (ps_for PassesOwn.never rfl (pi_range1 rfl T.z_range (pa_cons pe_int pa_nil)) (pg_name (i := 4) sc__law_bad_ones.nd rfl (by first | exact Or.inl rfl | exact Or.inr rfl)) (pss_cons (ps_set (i := 5) sc__law_bad_ones.nd rfl (by first | exact Or.inl rfl | exact Or.inr rfl) (pe_callTy (kx_list (K := K) rfl) (by rfl) T.z_list (by decide +kernel) (pa_cons (pv 2) pa_nil))) (pss_cons (ps_for PassesOwn.never rfl (pi_range1 rfl T.z_range (pa_cons (pe_op op_addX pe_int (pe_call G__law_mix (hr.mono (by decide)) (by rfl) T.g__law_mix T.F__law_mix.kp T.b__law_mix .nil pass0 (pa_cons (pv 0) (pa_cons (pe_op op_addX pe_int (pv 4)) (pa_cons pe_int pa_nil))))) pa_nil)) (pg_name (i := 6) sc__law_bad_ones.nd rfl (by first | exact Or.inl rfl | exact Or.inr rfl)) (pss_cons (ps_set (i := 7) sc__law_bad_ones.nd rfl (by first | exact Or.inl rfl | exact Or.inr rfl) (pe_op op_sub (pe_call G__law_mix (hr.mono (by decide)) (by rfl) T.g__law_mix T.F__law_mix.kp T.b__law_mix .nil pass0 (pa_cons (pv 0) (pa_cons (pe_op op_addX (pe_op op_addX pe_int (pe_op op_mulX pe_int (pv 4))) (pv 6)) (pa_cons (pe_op op_addX (pv 1) pe_int) pa_nil)))) pe_int)) (pss_cons (ps_set (i := 8) sc__law_bad_ones.nd rfl (by first | exact Or.inl rfl | exact Or.inr rfl) (pe_ix (kx_ix (K := K) rfl) (pe_lst (pa_cons (pv 7) (pa_cons (pe_op op_sub (pe_call G__law_mix (hr.mono (by decide)) (by rfl) T.g__law_mix T.F__law_mix.kp T.b__law_mix .nil pass0 (pa_cons (pv 0) (pa_cons (pe_op op_addX (pe_op op_addX pe_int (pe_op op_mulX pe_int (pv 4))) (pv 6)) (pa_cons (pe_op op_addX (pv 1) pe_int) pa_nil)))) pe_int) pa_nil))) (pe_call G__law_mix (hr.mono (by decide)) (by rfl) T.g__law_mix T.F__law_mix.kp T.b__law_mix .nil pass0 (pa_cons (pv 0) (pa_cons (pe_op op_addX (pe_op op_addX pe_int (pe_op op_mulX pe_int (pv 4))) (pv 6)) (pa_cons pe_int pa_nil)))) (fun _ _ => rfl))) (pss_cons (ps_set (i := 9) sc__law_bad_ones.nd rfl (by first | exact Or.inl rfl | exact Or.inr rfl) (pe_lst (pa_cons pe_int (pa_cons (pe_op op_sub (pe_un un_neg pe_int) (pe_call G__law_mix (hr.mono (by decide)) (by rfl) T.g__law_mix T.F__law_mix.kp T.b__law_mix .nil pass0 (pa_cons (pv 0) (pa_cons (pe_op op_addX pe_int (pv 4)) (pa_cons pe_int pa_nil))))) (pa_cons (pe_op op_addX pe_int (pe_call G__law_mix (hr.mono (by decide)) (by rfl) T.g__law_mix T.F__law_mix.kp T.b__law_mix .nil pass0 (pa_cons (pv 0) (pa_cons (pe_op op_addX pe_int (pv 4)) (pa_cons pe_int pa_nil))))) (pa_cons pe_int pa_nil)))))) (pss_cons (ps_set (i := 10) sc__law_bad_ones.nd rfl (by first | exact Or.inl rfl | exact Or.inr rfl) (pe_tup (pa_cons (pv 7) (pa_cons (pv 8) (pa_cons (pe_ix (kx_ix (K := K) rfl) (pv 9) (pe_call G__law_mix (hr.mono (by decide)) (by rfl) T.g__law_mix T.F__law_mix.kp T.b__law_mix .nil pass0 (pa_cons (pv 0) (pa_cons (pe_op op_addX (pe_op op_addX pe_int (pe_op op_mulX pe_int (pv 4))) (pv 6)) (pa_cons pe_int pa_nil)))) (fun _ _ => rfl)) pa_nil))))) (pss_cons (ps_set (i := 11) sc__law_bad_ones.nd rfl (by first | exact Or.inl rfl | exact Or.inr rfl) (pe_call G__law_mix (hr.mono (by decide)) (by rfl) T.g__law_mix T.F__law_mix.kp T.b__law_mix .nil pass0 (pa_cons (pv 0) (pa_cons (pe_op op_addX (pe_op op_addX pe_int (pe_op op_mulX pe_int (pv 4))) (pv 6)) (pa_cons (pe_op op_addX (pe_callB (kx_len (K := K) rfl) (by rfl) T.z_len (by decide +kernel) (pa_cons (pv 5) pa_nil)) pe_int) pa_nil))))) (pss_one (ps_set (i := 5) sc__law_bad_ones.nd rfl (by first | exact Or.inl rfl | exact Or.inr rfl) (pe_op op_addX (pe_op op_addX (pe_slice (kx_sl (K := K) rfl) (pv 5) po_none (po_some (pv 11))) (pe_lst (pa_cons (pv 10) pa_nil))) (pe_slice (kx_sl (K := K) rfl) (pv 5) (po_some (pv 11)) po_none)))))))))) (pss_one (ps_expr (pe_bm PySem.F.plainAttrs_list PySem.F.slot_list_append PySem.F.type_list_append mt_append (pv 3) (pa_cons (pe_tup (pa_cons (pv 1) (pa_cons (pv 5) pa_nil))) pa_nil))))))) (pss_one (ps_ret (pv 3))))), fun Bp F0 => ⟨[.fr, .fr, .fr, (.own .fr), .fr, .fr, .fr, .fr, .fr, .fr, .fr, .fr], ?_⟩⟩
  unfold b__law_bad_ones
  exact (ss_seq (ss_set (i := 3) (m := (.own .fr)) (sx_of (se_lst (m := .fr) (sa_cons (se_tup (sa_cons (se_op os_sub (se_call (sa_cons (se_var (i := 0) (m := .fr) rfl) (sa_cons se_int (sa_cons se_int sa_nil))) hx0) se_int) (sa_cons (se_var (i := 2) (m := .fr) rfl) sa_nil)) (by decide)) (sa_cons (se_tup (sa_cons (se_fr (se_op os_add se_int (se_call (sa_cons (se_var (i := 0) (m := .fr) rfl) (sa_cons se_int (sa_cons se_int sa_nil))) hx0)) rfl) (sa_cons (se_var (i := 2) (m := .fr) rfl) sa_nil)) (by decide)) (sa_cons (se_tup (sa_cons (se_var (i := 1) (m := .fr) rfl) (sa_cons (se_fr (se_op os_add (se_var (i := 2) (m := .fr) rfl) (se_fr (se_op os_rep (se_lst (m := .fr) (sa_cons (se_tup (sa_cons se_int (sa_cons se_int (sa_cons se_int sa_nil))) (by decide)) sa_nil) (by decide)) se_int) rfl)) rfl) sa_nil)) (by decide)) sa_nil))) (by decide))) (by decide) nio) (ss_seq (ss_for (si_rng1 (sa_cons se_int sa_nil)) (sn_name (i := 4) (m := .fr) rfl nio) nx_name (ss_seq (ss_set (i := 5) (m := .fr) (sx_of (se_fr (se_cb cs_list (sa_cons (se_var (i := 2) (m := .fr) rfl) sa_nil)) rfl)) (by decide) nio) (ss_seq (ss_for (si_rng1 (sa_cons (se_fr (se_op os_add se_int (se_call (sa_cons (se_var (i := 0) (m := .fr) rfl) (sa_cons (se_fr (se_op os_add se_int (se_var (i := 4) (m := .fr) rfl)) rfl) (sa_cons se_int sa_nil))) hx0)) rfl) sa_nil)) (sn_name (i := 6) (m := .fr) rfl nio) nx_name (ss_seq (ss_set (i := 7) (m := .fr) (sx_of (se_op os_sub (se_call (sa_cons (se_var (i := 0) (m := .fr) rfl) (sa_cons (se_fr (se_op os_add (se_fr (se_op os_add se_int (se_op os_mul se_int (se_var (i := 4) (m := .fr) rfl))) rfl) (se_var (i := 6) (m := .fr) rfl)) rfl) (sa_cons (se_fr (se_op os_add (se_var (i := 1) (m := .fr) rfl) se_int) rfl) sa_nil))) hx0) se_int)) (by decide) nio) (ss_seq (ss_set (i := 8) (m := .fr) (sx_of (se_op os_ix (se_fr (se_lst (m := .fr) (sa_cons (se_var (i := 7) (m := .fr) rfl) (sa_cons (se_op os_sub (se_call (sa_cons (se_var (i := 0) (m := .fr) rfl) (sa_cons (se_fr (se_op os_add (se_fr (se_op os_add se_int (se_op os_mul se_int (se_var (i := 4) (m := .fr) rfl))) rfl) (se_var (i := 6) (m := .fr) rfl)) rfl) (sa_cons (se_fr (se_op os_add (se_var (i := 1) (m := .fr) rfl) se_int) rfl) sa_nil))) hx0) se_int) sa_nil)) (by decide)) rfl) (se_call (sa_cons (se_var (i := 0) (m := .fr) rfl) (sa_cons (se_fr (se_op os_add (se_fr (se_op os_add se_int (se_op os_mul se_int (se_var (i := 4) (m := .fr) rfl))) rfl) (se_var (i := 6) (m := .fr) rfl)) rfl) (sa_cons se_int sa_nil))) hx0))) (by decide) nio) (ss_seq (ss_set (i := 9) (m := .fr) (sx_of (se_fr (se_lst (m := .fr) (sa_cons se_int (sa_cons (se_op os_sub (se_neg se_int) (se_call (sa_cons (se_var (i := 0) (m := .fr) rfl) (sa_cons (se_fr (se_op os_add se_int (se_var (i := 4) (m := .fr) rfl)) rfl) (sa_cons se_int sa_nil))) hx0)) (sa_cons (se_fr (se_op os_add se_int (se_call (sa_cons (se_var (i := 0) (m := .fr) rfl) (sa_cons (se_fr (se_op os_add se_int (se_var (i := 4) (m := .fr) rfl)) rfl) (sa_cons se_int sa_nil))) hx0)) rfl) (sa_cons se_int sa_nil)))) (by decide)) rfl)) (by decide) nio) (ss_seq (ss_set (i := 10) (m := .fr) (sx_of (se_tup (sa_cons (se_var (i := 7) (m := .fr) rfl) (sa_cons (se_var (i := 8) (m := .fr) rfl) (sa_cons (se_op os_ix (se_var (i := 9) (m := .fr) rfl) (se_call (sa_cons (se_var (i := 0) (m := .fr) rfl) (sa_cons (se_fr (se_op os_add (se_fr (se_op os_add se_int (se_op os_mul se_int (se_var (i := 4) (m := .fr) rfl))) rfl) (se_var (i := 6) (m := .fr) rfl)) rfl) (sa_cons se_int sa_nil))) hx0)) sa_nil))) (by decide))) (by decide) nio) (ss_seq (ss_set (i := 11) (m := .fr) (sx_of (se_call (sa_cons (se_var (i := 0) (m := .fr) rfl) (sa_cons (se_fr (se_op os_add (se_fr (se_op os_add se_int (se_op os_mul se_int (se_var (i := 4) (m := .fr) rfl))) rfl) (se_var (i := 6) (m := .fr) rfl)) rfl) (sa_cons (se_fr (se_op os_add (se_cb cs_len (sa_cons (se_var (i := 5) (m := .fr) rfl) sa_nil)) se_int) rfl) sa_nil))) hx0)) (by decide) nio) (ss_set (i := 5) (m := .fr) (sx_of (se_fr (se_op os_add (se_fr (se_op os_add (se_fr (se_sl (se_var (i := 5) (m := .fr) rfl) so_none (so_some (se_var (i := 11) (m := .fr) rfl))) rfl) (se_fr (se_lst (m := .fr) (sa_cons (se_var (i := 10) (m := .fr) rfl) sa_nil) (by decide)) rfl)) rfl) (se_fr (se_sl (se_var (i := 5) (m := .fr) rfl) (so_some (se_var (i := 11) (m := .fr) rfl)) so_none) rfl)) rfl)) (by decide) nio))))))) (ss_expr (sx_app (i := 3) (m := .fr) rfl (sx_of (se_tup (sa_cons (se_var (i := 1) (m := .fr) rfl) (sa_cons (se_var (i := 5) (m := .fr) rfl) sa_nil)) (by decide))) rfl))))) (ss_ret (Γ' := [.fr, .fr, .fr, (.own .fr), .fr, .fr, .fr, .fr, .fr, .fr, .fr, .fr]) (sx_move (i := 3) (m := (.own .fr)) rfl))))
theorem ok_law (T : Tp P K mg) : FnTop P w K mg base CX0 T.a_law T.fd_law ["_law_script"] (spD K mg X0 [.sc] .fr m_law) := by
  have G__law_draws := ok__law_draws (P := P) (w := w) (base := base) T
  have G__law_mix := ok__law_mix (P := P) (w := w) (base := base) T
  have G__law_network := ok__law_network (P := P) (w := w) (base := base) T
  have G_Network___init__ := ok_Network___init__ (P := P) (w := w) (base := base) T
  have G_Network_edges := ok_Network_edges (P := P) (w := w) (base := base) T
  have G_Network_around := ok_Network_around (P := P) (w := w) (base := base) T
  have G__law_alike := ok__law_alike (P := P) (w := w) (base := base) T
  have G__law_bad_ones := ok__law_bad_ones (P := P) (w := w) (base := base) T
  have G__law_made := ok__law_made (P := P) (w := w) (base := base) T
  have G__law_due := ok__law_due (P := P) (w := w) (base := base) T
  have G__law_refused := ok__law_refused (P := P) (w := w) (base := base) T
  have G_Network_with_price := ok_Network_with_price (P := P) (w := w) (base := base) T
  refine fnTop (k := 8) (N := N_law) (pm := [.sc]) (Γl := [.fr, .fr, .fr, .fr, (.own .fr), .fr, .fr, .fr, .fr, .fr, .fr, .fr, .fr, .fr, .fr, .fr]) T.F_law sc_law ⟨rfl, by decide, by decide⟩ rfl rfl fun cdv A outer s H E hg hr => ⟨_, (pss_cons (ps_set (i := 1) sc_law.nd rfl (by first | exact Or.inl rfl | exact Or.inr rfl) (pe_call G__law_draws (hr.mono (by decide)) (by rfl) T.g__law_draws T.F__law_draws.kp T.b__law_draws .nil pass0 (pa_cons (pv 0) pa_nil))) (pss_cons (ps_set (i := 2) sc_law.nd rfl (by first | exact Or.inl rfl | exact Or.inr rfl) (pe_cmpR (kx_eq (K := K) rfl hr.units) (pe_call G__law_mix (hr.mono (by decide)) (by rfl) T.g__law_mix T.F__law_mix.kp T.b__law_mix .nil pass0 (pa_cons (pv 1) (pa_cons pe_int (pa_cons pe_int pa_nil)))) pe_int (nomark _))) (pss_cons (ps_set (i := 3) sc_law.nd rfl (by first | exact Or.inl rfl | exact Or.inr rfl) (pe_ix (kx_ix (K := K) rfl) (pe_lst (pa_cons pe_int (pa_cons pe_int (pa_cons pe_int pa_nil)))) (pe_call G__law_mix (hr.mono (by decide)) (by rfl) T.g__law_mix T.F__law_mix.kp T.b__law_mix .nil pass0 (pa_cons (pv 1) (pa_cons pe_int (pa_cons pe_int pa_nil)))) (fun _ _ => rfl))) (pss_cons (ps_asg (pe_call G__law_network (hr.mono (by decide)) (by rfl) T.g__law_network T.F__law_network.kp T.b__law_network .nil pass0 (pa_cons (pv 1) (pa_cons pe_int (pa_cons (pe_ix (kx_ix (K := K) rfl) (pe_lst (pa_cons pe_int (pa_cons pe_int pa_nil))) (pe_callTy call_int1 (by rfl) T.z_int (by decide +kernel) (pa_cons (pv 2) pa_nil)) (fun _ _ => rfl)) (pa_cons (pe_ix (kx_ix (K := K) rfl) (pe_lst (pa_cons pe_int (pa_cons pe_int pa_nil))) (pe_callTy call_int1 (by rfl) T.z_int (by decide +kernel) (pa_cons (pv 2) pa_nil)) (fun _ _ => rfl)) (pa_cons (pv 3) pa_nil)))))) (pg_tup rfl (pgs_cons (pg_name (i := 4) sc_law.nd rfl (by first | exact Or.inl rfl | exact Or.inr rfl)) (pgs_cons (pg_name (i := 5) sc_law.nd rfl (by first | exact Or.inl rfl | exact Or.inr rfl)) pgs_nil)))) (pss_cons (ps_set (i := 6) sc_law.nd rfl (by first | exact Or.inl rfl | exact Or.inr rfl) (pe_callTy (kx_list (K := K) rfl) (by rfl) T.z_list (by decide +kernel) (pa_cons (pv 5) pa_nil))) (pss_cons (ps_set (i := 7) sc_law.nd rfl (by first | exact Or.inl rfl | exact Or.inr rfl) (pe_make T.mk_Network G_Network___init__ (hr.mono (by decide)) (by rfl) T.g_Network T.b_Network___init__ .nil passN (pa_cons (pv 4) (pa_cons (pv 5) pa_nil)))) (pss_cons (ps_expr (pe_bm PySem.F.plainAttrs_list PySem.F.slot_list_append PySem.F.type_list_append mt_append (pv 5) (pa_cons (pe_tup (pa_cons pe_int (pa_cons pe_int (pa_cons pe_int pa_nil)))) pa_nil))) (pss_cons (ps_expr (pe_bm PySem.F.plainAttrs_list PySem.F.slot_list_append PySem.F.type_list_append mt_append (pe_meth0 (pv 7) T.cl_Network T.me_Network_edges G_Network_edges (hr.mono (by decide)) T.b_Network_edges .nil pass0) (pa_cons (pe_tup (pa_cons pe_int (pa_cons pe_int (pa_cons pe_int pa_nil)))) pa_nil))) (pss_cons (ps_expr (pe_bm PySem.F.plainAttrs_list PySem.F.slot_list_append PySem.F.type_list_append mt_append (pe_meth (pv 7) T.cl_Network T.me_Network_around G_Network_around (hr.mono (by decide)) T.b_Network_around .nil passN (pa_cons pe_int pa_nil)) (pa_cons pe_int pa_nil))) (pss_cons (ps_if (pt_not (pt_val (pe_call G__law_alike (hr.mono (by decide)) (by rfl) T.g__law_alike T.F__law_alike.kp T.b__law_alike .nil pass0 (pa_cons (pv 7) (pa_cons (pv 4) (pa_cons (pv 6) pa_nil)))))) (pss_one (ps_ret pe_bl)) pss_nil) (pss_cons (ps_for PassesOwn.never rfl (kx_seq (K := K) rfl (pe_call G__law_bad_ones (hr.mono (by decide)) (by rfl) T.g__law_bad_ones T.F__law_bad_ones.kp T.b__law_bad_ones .nil pass0 (pa_cons (pv 1) (pa_cons (pv 4) (pa_cons (pv 6) pa_nil))))) (pg_name (i := 8) sc_law.nd rfl (by first | exact Or.inl rfl | exact Or.inr rfl)) (pss_cons (ps_set (i := 9) sc_law.nd rfl (by first | exact Or.inl rfl | exact Or.inr rfl) (pe_callB (kx_repr (K := K) rfl hg hr.units65) (by rfl) T.z_repr (by decide +kernel) (pa_cons (pv 8) pa_nil))) (pss_one (ps_if (PW.pt (pw_or (pt_cmpR (kx_ne (K := K) rfl hr.units) (pe_call G__law_made (hr.mono (by decide)) (by rfl) T.g__law_made T.F__law_made.kp T.b__law_made .nil pass0 (pa_cons (pe_ix (kx_ix (K := K) rfl) (pv 8) pe_int (fun _ _ => rfl)) (pa_cons (pe_ix (kx_ix (K := K) rfl) (pv 8) pe_int (fun _ _ => rfl)) pa_nil))) (pe_call G__law_due (hr.mono (by decide)) (by rfl) T.g__law_due T.F__law_due.kp T.b__law_due .nil pass0 (pa_cons (pe_ix (kx_ix (K := K) rfl) (pv 8) pe_int (fun _ _ => rfl)) (pa_cons (pe_ix (kx_ix (K := K) rfl) (pv 8) pe_int (fun _ _ => rfl)) pa_nil))) (nomark _)) (pw_or1 (pt_cmpR (kx_ne (K := K) rfl hr.units) (pe_callB (kx_repr (K := K) rfl hg hr.units65) (by rfl) T.z_repr (by decide +kernel) (pa_cons (pv 8) pa_nil)) (pv 9) (nomark _))))) (pss_one (ps_ret pe_bl)) pss_nil)))) (pss_cons (ps_for PassesOwn.never rfl (kx_seq (K := K) rfl (pe_lst (pa_cons (pe_op op_sub (pe_un un_neg pe_int) (pe_call G__law_mix (hr.mono (by decide)) (by rfl) T.g__law_mix T.F__law_mix.kp T.b__law_mix .nil pass0 (pa_cons (pv 1) (pa_cons pe_int (pa_cons pe_int pa_nil))))) (pa_cons (pe_op op_addX (pv 4) (pe_call G__law_mix (hr.mono (by decide)) (by rfl) T.g__law_mix T.F__law_mix.kp T.b__law_mix .nil pass0 (pa_cons (pv 1) (pa_cons pe_int (pa_cons pe_int pa_nil))))) pa_nil)))) (pg_name (i := 10) sc_law.nd rfl (by first | exact Or.inl rfl | exact Or.inr rfl)) (pss_one (ps_for PassesOwn.never rfl (pi_range1 rfl T.z_range (pa_cons pe_int pa_nil)) (pg_name (i := 11) sc_law.nd rfl (by first | exact Or.inl rfl | exact Or.inr rfl)) (pss_one (ps_if (pt_cmpR (kx_ne (K := K) rfl hr.units) (pe_call G__law_refused (hr.mono (by decide)) (by rfl) T.g__law_refused T.F__law_refused.kp T.b__law_refused .nil pass0 (pa_cons (pv 11) (pa_cons (pv 7) (pa_cons (pv 10) (pa_cons pe_int pa_nil))))) (pe_tup (pa_cons (pe_lst (pa_cons pe_bl (pa_cons pe_bl (pa_cons pe_bl pa_nil)))) (pa_cons (pv 10) pa_nil))) (nomark _)) (pss_one (ps_ret pe_bl)) pss_nil))))) (pss_cons (ps_for PassesOwn.never rfl (kx_seq (K := K) rfl (pe_lst (pa_cons (pe_op op_sub (pe_un un_neg pe_int) (pe_call G__law_mix (hr.mono (by decide)) (by rfl) T.g__law_mix T.F__law_mix.kp T.b__law_mix .nil pass0 (pa_cons (pv 1) (pa_cons pe_int (pa_cons pe_int pa_nil))))) (pa_cons (pe_op op_addX (pe_callB (kx_len (K := K) rfl) (by rfl) T.z_len (by decide +kernel) (pa_cons (pv 6) pa_nil)) (pe_call G__law_mix (hr.mono (by decide)) (by rfl) T.g__law_mix T.F__law_mix.kp T.b__law_mix .nil pass0 (pa_cons (pv 1) (pa_cons pe_int (pa_cons pe_int pa_nil))))) pa_nil)))) (pg_name (i := 10) sc_law.nd rfl (by first | exact Or.inl rfl | exact Or.inr rfl)) (pss_one (ps_if (pt_cmpR (kx_ne (K := K) rfl hr.units) (pe_call G__law_refused (hr.mono (by decide)) (by rfl) T.g__law_refused T.F__law_refused.kp T.b__law_refused .nil pass0 (pa_cons pe_int (pa_cons (pv 7) (pa_cons (pv 10) (pa_cons (pe_ix (kx_ix (K := K) rfl) (pe_lst (pa_cons (pe_un un_neg pe_int) (pa_cons pe_int pa_nil))) (pe_call G__law_mix (hr.mono (by decide)) (by rfl) T.g__law_mix T.F__law_mix.kp T.b__law_mix .nil pass0 (pa_cons (pv 1) (pa_cons pe_int (pa_cons pe_int pa_nil)))) (fun _ _ => rfl)) pa_nil))))) (pe_tup (pa_cons (pe_lst (pa_cons pe_bl (pa_cons pe_bl (pa_cons pe_bl pa_nil)))) (pa_cons (pv 10) pa_nil))) (nomark _)) (pss_one (ps_ret pe_bl)) pss_nil))) (pss_cons (ps_for PassesOwn.never rfl (pi_range1 rfl T.z_range (pa_cons (pe_callB (call_min2 rfl) (by rfl) T.z_min (by decide +kernel) (pa_cons pe_int (pa_cons (pe_callB (kx_len (K := K) rfl) (by rfl) T.z_len (by decide +kernel) (pa_cons (pv 6) pa_nil)) pa_nil))) pa_nil)) (pg_name (i := 12) sc_law.nd rfl (by first | exact Or.inl rfl | exact Or.inr rfl)) (pss_cons (ps_set (i := 13) sc_law.nd rfl (by first | exact Or.inl rfl | exact Or.inr rfl) (pe_call G__law_mix (hr.mono (by decide)) (by rfl) T.g__law_mix T.F__law_mix.kp T.b__law_mix .nil pass0 (pa_cons (pv 1) (pa_cons (pe_op op_addX pe_int (pv 12)) (pa_cons (pe_callB (kx_len (K := K) rfl) (by rfl) T.z_len (by decide +kernel) (pa_cons (pv 6) pa_nil)) pa_nil))))) (pss_cons (ps_for PassesOwn.never rfl (kx_seq (K := K) rfl (pe_lst (pa_cons (pe_op op_sub (pe_un un_neg pe_int) (pe_call G__law_mix (hr.mono (by decide)) (by rfl) T.g__law_mix T.F__law_mix.kp T.b__law_mix .nil pass0 (pa_cons (pv 1) (pa_cons pe_int (pa_cons pe_int pa_nil))))) (pa_cons (pe_op op_addX pe_int (pe_call G__law_mix (hr.mono (by decide)) (by rfl) T.g__law_mix T.F__law_mix.kp T.b__law_mix .nil pass0 (pa_cons (pv 1) (pa_cons pe_int (pa_cons pe_int pa_nil))))) pa_nil)))) (pg_name (i := 10) sc_law.nd rfl (by first | exact Or.inl rfl | exact Or.inr rfl)) (pss_one (ps_if (pt_cmpR (kx_ne (K := K) rfl hr.units) (pe_call G__law_refused (hr.mono (by decide)) (by rfl) T.g__law_refused T.F__law_refused.kp T.b__law_refused .nil pass0 (pa_cons pe_int (pa_cons (pv 7) (pa_cons (pv 13) (pa_cons (pv 10) pa_nil))))) (pe_tup (pa_cons (pe_lst (pa_cons pe_bl (pa_cons pe_bl (pa_cons pe_bl pa_nil)))) (pa_cons (pv 13) pa_nil))) (nomark _)) (pss_one (ps_ret pe_bl)) pss_nil))) (pss_cons (ps_set (i := 14) sc_law.nd rfl (by first | exact Or.inl rfl | exact Or.inr rfl) (pe_ix (kx_ix (K := K) rfl) (pe_lst (pa_cons pe_int (pa_cons pe_int (pa_cons (pe_call G__law_mix (hr.mono (by decide)) (by rfl) T.g__law_mix T.F__law_mix.kp T.b__law_mix .nil pass0 (pa_cons (pv 1) (pa_cons (pe_op op_addX pe_int (pv 12)) (pa_cons pe_int pa_nil)))) pa_nil)))) (pe_call G__law_mix (hr.mono (by decide)) (by rfl) T.g__law_mix T.F__law_mix.kp T.b__law_mix .nil pass0 (pa_cons (pv 1) (pa_cons pe_int (pa_cons pe_int pa_nil)))) (fun _ _ => rfl))) (pss_cons (ps_set (i := 15) sc_law.nd rfl (by first | exact Or.inl rfl | exact Or.inr rfl) (pe_meth (pv 7) T.cl_Network T.me_Network_with_price G_Network_with_price (hr.mono (by decide)) T.b_Network_with_price .nil passN (pa_cons (pv 13) (pa_cons (pv 14) pa_nil)))) (pss_cons (ps_set (i := 16) sc_law.nd rfl (by first | exact Or.inl rfl | exact Or.inr rfl) (pe_op op_addX (pe_op op_addX (pe_slice (kx_sl (K := K) rfl) (pv 6) po_none (po_some (pv 13))) (pe_lst (pa_cons (pe_tup (pa_cons (pe_ix (kx_ix (K := K) rfl) (pe_ix (kx_ix (K := K) rfl) (pv 6) (pv 13) (fun _ _ => rfl)) pe_int (fun _ _ => rfl)) (pa_cons (pe_ix (kx_ix (K := K) rfl) (pe_ix (kx_ix (K := K) rfl) (pv 6) (pv 13) (fun _ _ => rfl)) pe_int (fun _ _ => rfl)) (pa_cons (pv 14) pa_nil)))) pa_nil))) (pe_slice (kx_sl (K := K) rfl) (pv 6) (po_some (pe_op op_addX (pv 13) pe_int)) po_none))) (pss_one (ps_if (pt_not (pt_val (pe_call G__law_alike (hr.mono (by decide)) (by rfl) T.g__law_alike T.F__law_alike.kp T.b__law_alike .nil pass0 (pa_cons (pv 15) (pa_cons (pv 4) (pa_cons (pv 16) pa_nil)))))) (pss_one (ps_ret pe_bl)) pss_nil)))))))) (pss_one (ps_ret (pe_call G__law_alike (hr.mono (by decide)) (by rfl) T.g__law_alike T.F__law_alike.kp T.b__law_alike .nil pass0 (pa_cons (pv 7) (pa_cons (pv 4) (pa_cons (pv 6) pa_nil)))))))))))))))))))), fun Bp F0 => ⟨[.sc, .fr, .fr, .fr, .fr, (.own .fr), .fr, .fr, .fr, .fr, .fr, .fr, .fr, .fr, .fr, .fr, .fr], ?_⟩⟩
  unfold b_law
  exact (ss_seq (ss_set (i := 1) (m := .fr) (sx_of (se_fr (se_call (sa_cons (se_var (i := 0) (m := .sc) rfl) sa_nil) hx0) rfl)) (by decide) nio) (ss_seq (ss_set (i := 2) (m := .fr) (sx_of (se_op os_eq (se_call (sa_cons (se_var (i := 1) (m := .fr) rfl) (sa_cons se_int (sa_cons se_int sa_nil))) hx0) se_int)) (by decide) nio) (ss_seq (ss_set (i := 3) (m := .fr) (sx_of (se_op os_ix (se_fr (se_lst (m := .fr) (sa_cons se_int (sa_cons se_int (sa_cons se_int sa_nil))) (by decide)) rfl) (se_call (sa_cons (se_var (i := 1) (m := .fr) rfl) (sa_cons se_int (sa_cons se_int sa_nil))) hx0))) (by decide) nio) (ss_seq (ss_asg (sx_of (se_call (sa_cons (se_var (i := 1) (m := .fr) rfl) (sa_cons se_int (sa_cons (se_op os_ix (se_fr (se_lst (m := .fr) (sa_cons se_int (sa_cons se_int sa_nil)) (by decide)) rfl) (se_cb cs_int (sa_cons (se_var (i := 2) (m := .fr) rfl) sa_nil))) (sa_cons (se_op os_ix (se_fr (se_lst (m := .fr) (sa_cons se_int (sa_cons se_int sa_nil)) (by decide)) rfl) (se_cb cs_int (sa_cons (se_var (i := 2) (m := .fr) rfl) sa_nil))) (sa_cons (se_var (i := 3) (m := .fr) rfl) sa_nil))))) hx0)) (sn_up (i := 4) (j := 5) (m := (.own .fr)) rfl rfl nioL) nx_up) (ss_seq (ss_set (i := 6) (m := .fr) (sx_of (se_fr (se_cb cs_list (sa_cons (se_var (i := 5) (m := (.own .fr)) rfl) sa_nil)) rfl)) (by decide) nio) (ss_seq (ss_set (i := 7) (m := .fr) (sx_of (se_make (c := "Network") (sa_cons (se_var (i := 4) (m := .fr) rfl) (sa_cons (se_var (i := 5) (m := (.own .fr)) rfl) sa_nil)) T.g_Network hxN)) (by decide) nio) (ss_seq (ss_expr (sx_app (i := 5) (m := .fr) rfl (sx_of (se_tup (sa_cons se_int (sa_cons se_int (sa_cons se_int sa_nil))) (by decide))) rfl)) (ss_seq (ss_expr (sx_appT (m := .fr) (se_meth (mn := "edges") (se_var (i := 7) (m := .fr) rfl) sa_nil T.g_Network hx0) (se_tup (sa_cons se_int (sa_cons se_int (sa_cons se_int sa_nil))) (by decide)) rfl)) (ss_seq (ss_expr (sx_appT (m := .fr) (se_meth (mn := "around") (se_var (i := 7) (m := .fr) rfl) (sa_cons se_int sa_nil) T.g_Network hxN) se_int rfl)) (ss_seq (ss_if (st_not (st_b (se_call (sa_cons (se_var (i := 7) (m := .fr) rfl) (sa_cons (se_var (i := 4) (m := .fr) rfl) (sa_cons (se_var (i := 6) (m := .fr) rfl) sa_nil))) hx0))) (ss_ret (Γ' := [.sc, .fr, .fr, .fr, .fr, (.own .fr), .fr, .fr, .fr, .fr, .fr, .fr, .fr, .fr, .fr, .fr, .fr]) (sx_of se_bl)) ss_nil) (ss_seq (ss_for (si_seqS (se_fr (se_call (sa_cons (se_var (i := 1) (m := .fr) rfl) (sa_cons (se_var (i := 4) (m := .fr) rfl) (sa_cons (se_var (i := 6) (m := .fr) rfl) sa_nil))) hx0) rfl)) (sn_name (i := 8) (m := .fr) rfl nio) nx_name (ss_seq (ss_set (i := 9) (m := .fr) (sx_of (se_cb cs_repr (sa_cons (se_var (i := 8) (m := .fr) rfl) sa_nil))) (by decide) nio) (ss_if (st_or (st_tt (se_op os_ne (se_call (sa_cons (se_op os_ix (se_var (i := 8) (m := .fr) rfl) se_int) (sa_cons (se_op os_ix (se_var (i := 8) (m := .fr) rfl) se_int) sa_nil)) hx0) (se_call (sa_cons (se_op os_ix (se_var (i := 8) (m := .fr) rfl) se_int) (sa_cons (se_op os_ix (se_var (i := 8) (m := .fr) rfl) se_int) sa_nil)) hx0))) (st_tt (se_op os_ne (se_cb cs_repr (sa_cons (se_var (i := 8) (m := .fr) rfl) sa_nil)) (se_var (i := 9) (m := .fr) rfl)))) (ss_ret (Γ' := [.sc, .fr, .fr, .fr, .fr, (.own .fr), .fr, .fr, .fr, .fr, .fr, .fr, .fr, .fr, .fr, .fr, .fr]) (sx_of se_bl)) ss_nil))) (ss_seq (ss_for (si_seqS (se_fr (se_lst (m := .fr) (sa_cons (se_op os_sub (se_neg se_int) (se_call (sa_cons (se_var (i := 1) (m := .fr) rfl) (sa_cons se_int (sa_cons se_int sa_nil))) hx0)) (sa_cons (se_fr (se_op os_add (se_var (i := 4) (m := .fr) rfl) (se_call (sa_cons (se_var (i := 1) (m := .fr) rfl) (sa_cons se_int (sa_cons se_int sa_nil))) hx0)) rfl) sa_nil)) (by decide)) rfl)) (sn_name (i := 10) (m := .fr) rfl nio) nx_name (ss_for (si_rng1 (sa_cons se_int sa_nil)) (sn_name (i := 11) (m := .fr) rfl nio) nx_name (ss_if (st_tt (se_op os_ne (se_call (sa_cons (se_var (i := 11) (m := .fr) rfl) (sa_cons (se_var (i := 7) (m := .fr) rfl) (sa_cons (se_var (i := 10) (m := .fr) rfl) (sa_cons se_int sa_nil)))) hx0) (se_tup (sa_cons (se_fr (se_lst (m := .fr) (sa_cons se_bl (sa_cons se_bl (sa_cons se_bl sa_nil))) (by decide)) rfl) (sa_cons (se_var (i := 10) (m := .fr) rfl) sa_nil)) (by decide)))) (ss_ret (Γ' := [.sc, .fr, .fr, .fr, .fr, (.own .fr), .fr, .fr, .fr, .fr, .fr, .fr, .fr, .fr, .fr, .fr, .fr]) (sx_of se_bl)) ss_nil))) (ss_seq (ss_for (si_seqS (se_fr (se_lst (m := .fr) (sa_cons (se_op os_sub (se_neg se_int) (se_call (sa_cons (se_var (i := 1) (m := .fr) rfl) (sa_cons se_int (sa_cons se_int sa_nil))) hx0)) (sa_cons (se_fr (se_op os_add (se_cb cs_len (sa_cons (se_var (i := 6) (m := .fr) rfl) sa_nil)) (se_call (sa_cons (se_var (i := 1) (m := .fr) rfl) (sa_cons se_int (sa_cons se_int sa_nil))) hx0)) rfl) sa_nil)) (by decide)) rfl)) (sn_name (i := 10) (m := .fr) rfl nio) nx_name (ss_if (st_tt (se_op os_ne (se_call (sa_cons se_int (sa_cons (se_var (i := 7) (m := .fr) rfl) (sa_cons (se_var (i := 10) (m := .fr) rfl) (sa_cons (se_op os_ix (se_fr (se_lst (m := .fr) (sa_cons (se_neg se_int) (sa_cons se_int sa_nil)) (by decide)) rfl) (se_call (sa_cons (se_var (i := 1) (m := .fr) rfl) (sa_cons se_int (sa_cons se_int sa_nil))) hx0)) sa_nil)))) hx0) (se_tup (sa_cons (se_fr (se_lst (m := .fr) (sa_cons se_bl (sa_cons se_bl (sa_cons se_bl sa_nil))) (by decide)) rfl) (sa_cons (se_var (i := 10) (m := .fr) rfl) sa_nil)) (by decide)))) (ss_ret (Γ' := [.sc, .fr, .fr, .fr, .fr, (.own .fr), .fr, .fr, .fr, .fr, .fr, .fr, .fr, .fr, .fr, .fr, .fr]) (sx_of se_bl)) ss_nil)) (ss_seq (ss_for (si_rng1 (sa_cons (se_cb cs_min2 (sa_cons se_int (sa_cons (se_cb cs_len (sa_cons (se_var (i := 6) (m := .fr) rfl) sa_nil)) sa_nil))) sa_nil)) (sn_name (i := 12) (m := .fr) rfl nio) nx_name (ss_seq (ss_set (i := 13) (m := .fr) (sx_of (se_call (sa_cons (se_var (i := 1) (m := .fr) rfl) (sa_cons (se_fr (se_op os_add se_int (se_var (i := 12) (m := .fr) rfl)) rfl) (sa_cons (se_cb cs_len (sa_cons (se_var (i := 6) (m := .fr) rfl) sa_nil)) sa_nil))) hx0)) (by decide) nio) (ss_seq (ss_for (si_seqS (se_fr (se_lst (m := .fr) (sa_cons (se_op os_sub (se_neg se_int) (se_call (sa_cons (se_var (i := 1) (m := .fr) rfl) (sa_cons se_int (sa_cons se_int sa_nil))) hx0)) (sa_cons (se_fr (se_op os_add se_int (se_call (sa_cons (se_var (i := 1) (m := .fr) rfl) (sa_cons se_int (sa_cons se_int sa_nil))) hx0)) rfl) sa_nil)) (by decide)) rfl)) (sn_name (i := 10) (m := .fr) rfl nio) nx_name (ss_if (st_tt (se_op os_ne (se_call (sa_cons se_int (sa_cons (se_var (i := 7) (m := .fr) rfl) (sa_cons (se_var (i := 13) (m := .fr) rfl) (sa_cons (se_var (i := 10) (m := .fr) rfl) sa_nil)))) hx0) (se_tup (sa_cons (se_fr (se_lst (m := .fr) (sa_cons se_bl (sa_cons se_bl (sa_cons se_bl sa_nil))) (by decide)) rfl) (sa_cons (se_var (i := 13) (m := .fr) rfl) sa_nil)) (by decide)))) (ss_ret (Γ' := [.sc, .fr, .fr, .fr, .fr, (.own .fr), .fr, .fr, .fr, .fr, .fr, .fr, .fr, .fr, .fr, .fr, .fr]) (sx_of se_bl)) ss_nil)) (ss_seq (ss_set (i := 14) (m := .fr) (sx_of (se_op os_ix (se_fr (se_lst (m := .fr) (sa_cons se_int (sa_cons se_int (sa_cons (se_call (sa_cons (se_var (i := 1) (m := .fr) rfl) (sa_cons (se_fr (se_op os_add se_int (se_var (i := 12) (m := .fr) rfl)) rfl) (sa_cons se_int sa_nil))) hx0) sa_nil))) (by decide)) rfl) (se_call (sa_cons (se_var (i := 1) (m := .fr) rfl) (sa_cons se_int (sa_cons se_int sa_nil))) hx0))) (by decide) nio) (ss_seq (ss_set (i := 15) (m := .fr) (sx_of (se_meth (mn := "with_price") (se_var (i := 7) (m := .fr) rfl) (sa_cons (se_var (i := 13) (m := .fr) rfl) (sa_cons (se_var (i := 14) (m := .fr) rfl) sa_nil)) T.g_Network hxN)) (by decide) nio) (ss_seq (ss_set (i := 16) (m := .fr) (sx_of (se_fr (se_op os_add (se_fr (se_op os_add (se_fr (se_sl (se_var (i := 6) (m := .fr) rfl) so_none (so_some (se_var (i := 13) (m := .fr) rfl))) rfl) (se_fr (se_lst (m := .fr) (sa_cons (se_tup (sa_cons (se_op os_ix (se_op os_ix (se_var (i := 6) (m := .fr) rfl) (se_var (i := 13) (m := .fr) rfl)) se_int) (sa_cons (se_op os_ix (se_op os_ix (se_var (i := 6) (m := .fr) rfl) (se_var (i := 13) (m := .fr) rfl)) se_int) (sa_cons (se_var (i := 14) (m := .fr) rfl) sa_nil))) (by decide)) sa_nil) (by decide)) rfl)) rfl) (se_fr (se_sl (se_var (i := 6) (m := .fr) rfl) (so_some (se_fr (se_op os_add (se_var (i := 13) (m := .fr) rfl) se_int) rfl)) so_none) rfl)) rfl)) (by decide) nio) (ss_if (st_not (st_b (se_call (sa_cons (se_var (i := 15) (m := .fr) rfl) (sa_cons (se_var (i := 4) (m := .fr) rfl) (sa_cons (se_var (i := 16) (m := .fr) rfl) sa_nil))) hx0))) (ss_ret (Γ' := [.sc, .fr, .fr, .fr, .fr, (.own .fr), .fr, .fr, .fr, .fr, .fr, .fr, .fr, .fr, .fr, .fr, .fr]) (sx_of se_bl)) ss_nil))))))) (ss_ret (Γ' := [.sc, .fr, .fr, .fr, .fr, (.own .fr), .fr, .fr, .fr, .fr, .fr, .fr, .fr, .fr, .fr, .fr, .fr]) (sx_of (se_call (sa_cons (se_var (i := 7) (m := .fr) rfl) (sa_cons (se_var (i := 4) (m := .fr) rfl) (sa_cons (se_var (i := 6) (m := .fr) rfl) sa_nil))) hx0)))))))))))))))))
end
end M
end

/-! text Hd -/
section
set_option maxRecDepth 100000
set_option maxHeartbeats 8000000
namespace M
open PySem PySem.Spec PyProof.Rows L2 DL
/-! the head -/
def fnX : List He.DefD := [⟨("check_edge", none), "check_edge", "check_edge", defArgs s_check_edge, defBody s_check_edge, defScope s_check_edge, [], []⟩,
  ⟨("_law_draws", none), "_law_draws", "_law_draws", defArgs s__law_draws, defBody s__law_draws, defScope s__law_draws, [], []⟩,
  ⟨("_law_mix", none), "_law_mix", "_law_mix", defArgs s__law_mix, defBody s__law_mix, defScope s__law_mix, [], []⟩,
  ⟨("_law_network", none), "_law_network", "_law_network", defArgs s__law_network, defBody s__law_network, defScope s__law_network, [], []⟩,
  ⟨("Network", some "__init__"), "__init__", "Network.__init__", defArgs s_Network___init__, defBody s_Network___init__, defScope s_Network___init__, [], []⟩,
  ⟨("_law_made", none), "_law_made", "_law_made", defArgs s__law_made, defBody s__law_made, defScope s__law_made, [], []⟩,
  ⟨("_law_due", none), "_law_due", "_law_due", defArgs s__law_due, defBody s__law_due, defScope s__law_due, [], []⟩,
  ⟨("Network", some "check_vertex"), "check_vertex", "Network.check_vertex", defArgs s_Network_check_vertex, defBody s_Network_check_vertex, defScope s_Network_check_vertex, [], []⟩,
  ⟨("Network", some "around"), "around", "Network.around", defArgs s_Network_around, defBody s_Network_around, defScope s_Network_around, [], []⟩,
  ⟨("Network", some "leaving"), "leaving", "Network.leaving", defArgs s_Network_leaving, defBody s_Network_leaving, defScope s_Network_leaving, [], []⟩,
  ⟨("Network", some "entering"), "entering", "Network.entering", defArgs s_Network_entering, defBody s_Network_entering, defScope s_Network_entering, [], []⟩,
  ⟨("Network", some "with_price"), "with_price", "Network.with_price", defArgs s_Network_with_price, defBody s_Network_with_price, defScope s_Network_with_price, [], []⟩,
  ⟨("_law_refused", none), "_law_refused", "_law_refused", defArgs s__law_refused, defBody s__law_refused, defScope s__law_refused, [], []⟩,
  ⟨("Network", some "size"), "size", "Network.size", defArgs s_Network_size, defBody s_Network_size, defScope s_Network_size, [], []⟩,
  ⟨("Network", some "edges"), "edges", "Network.edges", defArgs s_Network_edges, defBody s_Network_edges, defScope s_Network_edges, [], []⟩,
  ⟨("Network", some "other_end"), "other_end", "Network.other_end", defArgs s_Network_other_end, defBody s_Network_other_end, defScope s_Network_other_end, [], []⟩,
  ⟨("_law_alike", none), "_law_alike", "_law_alike", defArgs s__law_alike, defBody s__law_alike, defScope s__law_alike, [], []⟩,
  ⟨("_law_bad_ones", none), "_law_bad_ones", "_law_bad_ones", defArgs s__law_bad_ones, defBody s__law_bad_ones, defScope s__law_bad_ones, [], []⟩,
  ⟨("law", none), "law", "law", defArgs s_law, defBody s_law, defScope s_law, [], []⟩]
def qsX : Qs := [(fun K => (He.Fa.glo "check_edge").ok K),
  (fun K => (He.Fa.glo "_law_draws").ok K),
  (fun K => (He.Fa.glo "_law_mix").ok K),
  (fun K => (He.Fa.glo "_law_network").ok K),
  (fun K => (He.Fa.mkr "Network").ok K),
  (fun K => (He.Fa.glo "_law_made").ok K),
  (fun K => (He.Fa.glo "_law_due").ok K),
  (fun K => (He.Fa.meth "Network" "check_vertex").ok K),
  (fun K => (He.Fa.meth "Network" "around").ok K),
  (fun K => (He.Fa.meth "Network" "leaving").ok K),
  (fun K => (He.Fa.meth "Network" "entering").ok K),
  (fun K => (He.Fa.meth "Network" "with_price").ok K),
  (fun K => (He.Fa.glo "_law_refused").ok K),
  (fun K => (He.Fa.meth "Network" "size").ok K),
  (fun K => (He.Fa.meth "Network" "edges").ok K),
  (fun K => (He.Fa.meth "Network" "other_end").ok K),
  (fun K => (He.Fa.glo "_law_alike").ok K),
  (fun K => (He.Fa.glo "_law_bad_ones").ok K),
  (fun K => (He.Fa.glo "law").ok K),
  (fun K => (He.Fa.glo "Network").ok K),
  (fun K => (He.Fa.cls "Network").ok K),
  (fun K => (He.Fa.noat "Network" "_edges").ok K),
  (fun K => (He.Fa.noat "Network" "_size").ok K),
  (fun K => (He.Fa.int "MOST_EDGES" 200).ok K),
  (fun K => (He.Fa.int "MOST_PRICE" 1048576).ok K),
  (fun K => (He.Fa.int "MOST_VERTICES" 40).ok K),
  (fun K => (He.Fa.free "abs").ok K),
  (fun K => (He.Fa.free "int").ok K),
  (fun K => (He.Fa.free "isinstance").ok K),
  (fun K => (He.Fa.free "len").ok K),
  (fun K => (He.Fa.free "list").ok K),
  (fun K => (He.Fa.free "min").ok K),
  (fun K => (He.Fa.free "range").ok K),
  (fun K => (He.Fa.free "repr").ok K),
  (fun K => (He.Fa.glo "WebError").ok K),
  (fun K => (He.Fa.free "super").ok K),
  (iniB "WebError" PySem.Challenge.pw_trunkweb_k00_networks.main.file),
  thpB,
  (gloB ecsX),
  (clsB "WebError" ecsX),
  (exmB "WebError" ecsX),
  (isB ecsX)]
abbrev RX : PySem.W.OpenRow := PySem.W.OpenLaw.row PySem.Challenge.rw_trunkweb_k00_networks
def iniS : Stmt := inClass (topS 1) 0
def iniV : IniW := some (("__init__" : Str), ("WebError.__init__" : Str), defArgs iniS, FuncBody.stmts (defBody iniS), defScope iniS, mainGlobals, builtinsNs)
abbrev hkX : PySem.W.Hook := hookY 4 qsX fnX "WebError" iniV
def obX (s : PySem.W.SharedT) : AlY := obsYG 4 qsX fnX "WebError" (HandSHeadRun.getT s)
theorem obX_eq (s : PySem.W.SharedT) : obX s = hkX.obs s.abs := obsYG_eq (HandSHeadRun.getT_eq s)
def nmX0 : List PySem.Str := ["WebError", "OutOfRange", "BadVertex", "BadPrice", "BadEdge", "TooMany", "MOST_VERTICES", "MOST_EDGES", "MOST_PRICE", "check_edge", "Network", "_law_draws", "_law_mix", "_law_network", "_law_made", "_law_due", "_law_refused", "_law_alike", "_law_bad_ones"]
def nmX : List PySem.Str := nmX0
theorem runX (w : World) : HandSHeadRun.RunEq RX (PySem.W.view RX.prog [22]) hkX obX 4000 nmX w := by
  intro os
  kernel_rfl
end M
end

/-! text End -/
section
set_option maxRecDepth 100000
set_option maxHeartbeats 8000000
namespace M
open PySem PySem.Spec PyProof.Rows L2 DL
theorem facts {w : World} {K : PySem.W.Frag} {h : Heap} {mg : Str → Option Value} {f : Addr} (X : K.In h) (G : h.Ns mainGlobals mg) (hfa : mg ("law" : Str) = some (.ref f)) (c : SaysX qsX fnX K) (ei : iniW K "WebError" = (some (("__init__" : Str), ("WebError.__init__" : Str), defArgs iniS, FuncBody.stmts (defBody iniS), defScope iniS, mainGlobals, builtinsNs) : IniW)) :
    ∃ fd : FuncData, (∀ (s : Shared) (v : Value), BindsTo s fd ⟨[v], []⟩ [("_law_script", v)]) ∧ ∀ base : Heap, K.In base → base.Ns mainGlobals mg → FnTop PySem.Challenge.pw_trunkweb_k00_networks w K mg base CX0 f fd ["_law_script"] (spD K mg X0 [.sc] .fr m_law) := by
  obtain ⟨fd_check_edge, F_check_edge⟩ := c.def_ 0 (d := ⟨("check_edge", none), "check_edge", "check_edge", defArgs s_check_edge, defBody s_check_edge, defScope s_check_edge, [], []⟩) rfl
  obtain ⟨fd__law_draws, F__law_draws⟩ := c.def_ 1 (d := ⟨("_law_draws", none), "_law_draws", "_law_draws", defArgs s__law_draws, defBody s__law_draws, defScope s__law_draws, [], []⟩) rfl
  obtain ⟨fd__law_mix, F__law_mix⟩ := c.def_ 2 (d := ⟨("_law_mix", none), "_law_mix", "_law_mix", defArgs s__law_mix, defBody s__law_mix, defScope s__law_mix, [], []⟩) rfl
  obtain ⟨fd__law_network, F__law_network⟩ := c.def_ 3 (d := ⟨("_law_network", none), "_law_network", "_law_network", defArgs s__law_network, defBody s__law_network, defScope s__law_network, [], []⟩) rfl
  obtain ⟨fd_Network___init__, F_Network___init__⟩ := c.def_ 4 (d := ⟨("Network", some "__init__"), "__init__", "Network.__init__", defArgs s_Network___init__, defBody s_Network___init__, defScope s_Network___init__, [], []⟩) rfl
  obtain ⟨fd__law_made, F__law_made⟩ := c.def_ 5 (d := ⟨("_law_made", none), "_law_made", "_law_made", defArgs s__law_made, defBody s__law_made, defScope s__law_made, [], []⟩) rfl
  obtain ⟨fd__law_due, F__law_due⟩ := c.def_ 6 (d := ⟨("_law_due", none), "_law_due", "_law_due", defArgs s__law_due, defBody s__law_due, defScope s__law_due, [], []⟩) rfl
  obtain ⟨fd_Network_check_vertex, F_Network_check_vertex⟩ := c.def_ 7 (d := ⟨("Network", some "check_vertex"), "check_vertex", "Network.check_vertex", defArgs s_Network_check_vertex, defBody s_Network_check_vertex, defScope s_Network_check_vertex, [], []⟩) rfl
  obtain ⟨fd_Network_around, F_Network_around⟩ := c.def_ 8 (d := ⟨("Network", some "around"), "around", "Network.around", defArgs s_Network_around, defBody s_Network_around, defScope s_Network_around, [], []⟩) rfl
  obtain ⟨fd_Network_leaving, F_Network_leaving⟩ := c.def_ 9 (d := ⟨("Network", some "leaving"), "leaving", "Network.leaving", defArgs s_Network_leaving, defBody s_Network_leaving, defScope s_Network_leaving, [], []⟩) rfl
  obtain ⟨fd_Network_entering, F_Network_entering⟩ := c.def_ 10 (d := ⟨("Network", some "entering"), "entering", "Network.entering", defArgs s_Network_entering, defBody s_Network_entering, defScope s_Network_entering, [], []⟩) rfl
  obtain ⟨fd_Network_with_price, F_Network_with_price⟩ := c.def_ 11 (d := ⟨("Network", some "with_price"), "with_price", "Network.with_price", defArgs s_Network_with_price, defBody s_Network_with_price, defScope s_Network_with_price, [], []⟩) rfl
  obtain ⟨fd__law_refused, F__law_refused⟩ := c.def_ 12 (d := ⟨("_law_refused", none), "_law_refused", "_law_refused", defArgs s__law_refused, defBody s__law_refused, defScope s__law_refused, [], []⟩) rfl
  obtain ⟨fd_Network_size, F_Network_size⟩ := c.def_ 13 (d := ⟨("Network", some "size"), "size", "Network.size", defArgs s_Network_size, defBody s_Network_size, defScope s_Network_size, [], []⟩) rfl
  obtain ⟨fd_Network_edges, F_Network_edges⟩ := c.def_ 14 (d := ⟨("Network", some "edges"), "edges", "Network.edges", defArgs s_Network_edges, defBody s_Network_edges, defScope s_Network_edges, [], []⟩) rfl
  obtain ⟨fd_Network_other_end, F_Network_other_end⟩ := c.def_ 15 (d := ⟨("Network", some "other_end"), "other_end", "Network.other_end", defArgs s_Network_other_end, defBody s_Network_other_end, defScope s_Network_other_end, [], []⟩) rfl
  obtain ⟨fd__law_alike, F__law_alike⟩ := c.def_ 16 (d := ⟨("_law_alike", none), "_law_alike", "_law_alike", defArgs s__law_alike, defBody s__law_alike, defScope s__law_alike, [], []⟩) rfl
  obtain ⟨fd__law_bad_ones, F__law_bad_ones⟩ := c.def_ 17 (d := ⟨("_law_bad_ones", none), "_law_bad_ones", "_law_bad_ones", defArgs s__law_bad_ones, defBody s__law_bad_ones, defScope s__law_bad_ones, [], []⟩) rfl
  obtain ⟨fd_law, F_law⟩ := c.def_ 18 (d := ⟨("law", none), "law", "law", defArgs s_law, defBody s_law, defScope s_law, [], []⟩) rfl
  obtain ⟨xI, xe1, xe2⟩ := init_of (P := PySem.Challenge.pw_trunkweb_k00_networks) (mg := mg) ei (c.fact 36) (c.fact 37) (He.free_ok X G (c.fact 35)) (by kernel_rfl) rfl rfl (fun _ _ _ _ _ _ _ _ _ => rfl) (fun _ _ _ _ => ⟨_, rfl⟩)
  let T : Tp PySem.Challenge.pw_trunkweb_k00_networks K mg := {
    xi := xI
    gc_root := by rw [xe1]; exact He.glo_ok X G (c.fact 34)
    c_OutOfRange := He.ga K "OutOfRange"
    gc_OutOfRange := glo_at X G (c.fact 38) (nth_mem 0 rfl)
    c_BadVertex := He.ga K "BadVertex"
    gc_BadVertex := glo_at X G (c.fact 38) (nth_mem 1 rfl)
    c_BadPrice := He.ga K "BadPrice"
    gc_BadPrice := glo_at X G (c.fact 38) (nth_mem 2 rfl)
    c_BadEdge := He.ga K "BadEdge"
    gc_BadEdge := glo_at X G (c.fact 38) (nth_mem 3 rfl)
    c_TooMany := He.ga K "TooMany"
    gc_TooMany := glo_at X G (c.fact 38) (nth_mem 4 rfl)
    ex := by rw [xe1, xe2]; exact cls_at X G (c.fact 38) (c.fact 39)
    exm := by rw [xe1]; exact exm_at X G (c.fact 38) (c.fact 40)
    is := is_at X G (c.fact 38) (c.fact 41)
    c_Network := He.ga K "Network"
    g_Network := He.glo_ok X G (c.fact 19)
    cl_Network := He.cls_ok (c.fact 20)
    na_Network__edges := He.noat_ok (c.fact 21)
    na_Network__size := He.noat_ok (c.fact 22)
    a_check_edge := He.ga K "check_edge"
    fd_check_edge := fd_check_edge
    F_check_edge := F_check_edge
    g_check_edge := He.glo_ok X G (c.fact 0)
    b_check_edge := FunD.bindsN F_check_edge fun _ _ _ _ _ _ us hl => match us, hl with | [_, _, _], _ => rfl
    a__law_draws := He.ga K "_law_draws"
    fd__law_draws := fd__law_draws
    F__law_draws := F__law_draws
    g__law_draws := He.glo_ok X G (c.fact 1)
    b__law_draws := FunD.bindsN F__law_draws fun _ _ _ _ _ _ us hl => match us, hl with | [_], _ => rfl
    a__law_mix := He.ga K "_law_mix"
    fd__law_mix := fd__law_mix
    F__law_mix := F__law_mix
    g__law_mix := He.glo_ok X G (c.fact 2)
    b__law_mix := FunD.bindsN F__law_mix fun _ _ _ _ _ _ us hl => match us, hl with | [_, _, _], _ => rfl
    a__law_network := He.ga K "_law_network"
    fd__law_network := fd__law_network
    F__law_network := F__law_network
    g__law_network := He.glo_ok X G (c.fact 3)
    b__law_network := FunD.bindsN F__law_network fun _ _ _ _ _ _ us hl => match us, hl with | [_, _, _, _, _], _ => rfl
    a_Network___init__ := He.ma K (He.ga K "Network") "__init__"
    fd_Network___init__ := fd_Network___init__
    F_Network___init__ := F_Network___init__
    b_Network___init__ := FunD.bindsN F_Network___init__ fun _ _ _ _ _ _ us hl => match us, hl with | [_, _, _], _ => rfl
    mk_Network := He.mkr_ok (c.fact 4)
    a__law_made := He.ga K "_law_made"
    fd__law_made := fd__law_made
    F__law_made := F__law_made
    g__law_made := He.glo_ok X G (c.fact 5)
    b__law_made := FunD.bindsN F__law_made fun _ _ _ _ _ _ us hl => match us, hl with | [_, _], _ => rfl
    a__law_due := He.ga K "_law_due"
    fd__law_due := fd__law_due
    F__law_due := F__law_due
    g__law_due := He.glo_ok X G (c.fact 6)
    b__law_due := FunD.bindsN F__law_due fun _ _ _ _ _ _ us hl => match us, hl with | [_, _], _ => rfl
    a_Network_check_vertex := He.ma K (He.ga K "Network") "check_vertex"
    fd_Network_check_vertex := fd_Network_check_vertex
    F_Network_check_vertex := F_Network_check_vertex
    b_Network_check_vertex := FunD.bindsN F_Network_check_vertex fun _ _ _ _ _ _ us hl => match us, hl with | [_, _], _ => rfl
    me_Network_check_vertex := He.meth_ok (c.fact 7)
    a_Network_around := He.ma K (He.ga K "Network") "around"
    fd_Network_around := fd_Network_around
    F_Network_around := F_Network_around
    b_Network_around := FunD.bindsN F_Network_around fun _ _ _ _ _ _ us hl => match us, hl with | [_, _], _ => rfl
    me_Network_around := He.meth_ok (c.fact 8)
    a_Network_leaving := He.ma K (He.ga K "Network") "leaving"
    fd_Network_leaving := fd_Network_leaving
    F_Network_leaving := F_Network_leaving
    b_Network_leaving := FunD.bindsN F_Network_leaving fun _ _ _ _ _ _ us hl => match us, hl with | [_, _], _ => rfl
    me_Network_leaving := He.meth_ok (c.fact 9)
    a_Network_entering := He.ma K (He.ga K "Network") "entering"
    fd_Network_entering := fd_Network_entering
    F_Network_entering := F_Network_entering
    b_Network_entering := FunD.bindsN F_Network_entering fun _ _ _ _ _ _ us hl => match us, hl with | [_, _], _ => rfl
    me_Network_entering := He.meth_ok (c.fact 10)
    a_Network_with_price := He.ma K (He.ga K "Network") "with_price"
    fd_Network_with_price := fd_Network_with_price
    F_Network_with_price := F_Network_with_price
    b_Network_with_price := FunD.bindsN F_Network_with_price fun _ _ _ _ _ _ us hl => match us, hl with | [_, _, _], _ => rfl
    me_Network_with_price := He.meth_ok (c.fact 11)
    a__law_refused := He.ga K "_law_refused"
    fd__law_refused := fd__law_refused
    F__law_refused := F__law_refused
    g__law_refused := He.glo_ok X G (c.fact 12)
    b__law_refused := FunD.bindsN F__law_refused fun _ _ _ _ _ _ us hl => match us, hl with | [_, _, _, _], _ => rfl
    a_Network_size := He.ma K (He.ga K "Network") "size"
    fd_Network_size := fd_Network_size
    F_Network_size := F_Network_size
    b_Network_size := FunD.bindsN F_Network_size fun _ _ _ _ _ _ us hl => match us, hl with | [_], _ => rfl
    me_Network_size := He.meth_ok (c.fact 13)
    a_Network_edges := He.ma K (He.ga K "Network") "edges"
    fd_Network_edges := fd_Network_edges
    F_Network_edges := F_Network_edges
    b_Network_edges := FunD.bindsN F_Network_edges fun _ _ _ _ _ _ us hl => match us, hl with | [_], _ => rfl
    me_Network_edges := He.meth_ok (c.fact 14)
    a_Network_other_end := He.ma K (He.ga K "Network") "other_end"
    fd_Network_other_end := fd_Network_other_end
    F_Network_other_end := F_Network_other_end
    b_Network_other_end := FunD.bindsN F_Network_other_end fun _ _ _ _ _ _ us hl => match us, hl with | [_, _, _], _ => rfl
    me_Network_other_end := He.meth_ok (c.fact 15)
    a__law_alike := He.ga K "_law_alike"
    fd__law_alike := fd__law_alike
    F__law_alike := F__law_alike
    g__law_alike := He.glo_ok X G (c.fact 16)
    b__law_alike := FunD.bindsN F__law_alike fun _ _ _ _ _ _ us hl => match us, hl with | [_, _, _], _ => rfl
    a__law_bad_ones := He.ga K "_law_bad_ones"
    fd__law_bad_ones := fd__law_bad_ones
    F__law_bad_ones := F__law_bad_ones
    g__law_bad_ones := He.glo_ok X G (c.fact 17)
    b__law_bad_ones := FunD.bindsN F__law_bad_ones fun _ _ _ _ _ _ us hl => match us, hl with | [_, _, _], _ => rfl
    a_law := He.ga K "law"
    fd_law := fd_law
    F_law := F_law
    g_law := He.glo_ok X G (c.fact 18)
    b_law := FunD.bindsN F_law fun _ _ _ _ _ _ us hl => match us, hl with | [_], _ => rfl
    k_MOST_EDGES := He.int_ok X G (c.fact 23)
    k_MOST_PRICE := He.int_ok X G (c.fact 24)
    k_MOST_VERTICES := He.int_ok X G (c.fact 25)
    z_abs := He.free_ok X G (c.fact 26)
    z_int := He.free_ok X G (c.fact 27)
    z_isinstance := He.free_ok X G (c.fact 28)
    z_len := He.free_ok X G (c.fact 29)
    z_list := He.free_ok X G (c.fact 30)
    z_min := He.free_ok X G (c.fact 31)
    z_range := He.free_ok X G (c.fact 32)
    z_repr := He.free_ok X G (c.fact 33)
  }
  have e := hfa.symm.trans T.g_law
  cases e
  exact ⟨fd_law, fun s v => FunD.bindsA (ps := ["_law_script"]) F_law (fun _ _ _ _ _ _ us hl => match us, hl with | [_], _ => rfl) s [v] rfl, fun base _ _ => ok_law T⟩
end M
open PySem PySem.W PySem.Calls PyProof.Rows
set_option maxHeartbeats 0 in
theorem PySem.Challenge.cw_trunkweb_k00_networks_holds : PySem.Challenge.rw_trunkweb_k00_networks.Holds := by
  w_on; o_law
  refine HandSHeadRun.head_any (r := M.RX) (q := view M.RX.prog [22]) (H := M.hkX) (ob := M.obX) (M := 4000) (loose := M.nmX) (d := HandSHeadRun.topDef M.RX.prog 22) (kwd := []) M.obX_eq
    (by kernel_rfl) (fun s => by kernel_rfl) M.runX (by kernel_rfl) (by kernel_rfl) (by kernel_rfl) (by rfl) (by first | assumption | decide +kernel) (by decide +kernel) ⟨rfl, rfl, rfl, rfl, rfl, by decide +kernel⟩ ?hw ?hc
  case hw => w_witness2
  case hc =>
    refine DL.walk_top (l := PySem.Challenge.rw_trunkweb_k00_networks) (n := 63) (x := "_law_script") (CX := L2.CX0) rfl (by decide) (by kernel_rfl) ?F (fun _ _ _ _ z => z)
    intro w mg fa h Y G hmg0
    obtain ⟨K, KX, c, ei⟩ := Y
    have hmg : mg ("law" : PySem.Str) = some (.ref fa) := by
      have e : (HandSHeadRun.topDef M.RX.prog 22).name = ("law" : PySem.Str) := by kernel_rfl
      rw [← e]
      exact hmg0
    obtain ⟨fd, hb, hF⟩ := M.facts (w := w) KX G hmg c ei
    exact ⟨_, fd, DL.spD _ mg DL.X0 [.sc] .fr M.m_law, KX, hb, fun H a ns hl _ hS => DL.law_end (M.law_true ns hl) hS, hF⟩
end
