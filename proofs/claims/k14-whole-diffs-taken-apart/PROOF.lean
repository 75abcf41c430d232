import PyProof.Rows.All
import Wide.All
import OpenK.AllK
import Wide.FinOn
import HandS.ForMost
import HandS.Exc
import HandS.HeadHook1
import HandS.HeadHook2
import HandS.TupAny
import HandS.IsInst
import HandS.Gcd
import HandS.Deep
import HandS.TryMany
import HandS.CallSlots
import HandS.Style
import HandS.RaiseMore
import PyProof.ReprRoads
import HandS.TryOnly
import HandS.Defaults
import HandS.Star
import HandS.More
import HandS.Zip
import HandS.DictComp
import HandS.SortInts
import HandS.ClsMeth
import HandS.Codes
import HandS.Small
import HandS.Conv
import KE.KDictPairs
import HandS.Ends
import KE.KStateDown
import HandS.Head0
import HandS.Head1
import HandS.Head2
import HandS.HeadEnd
import PyProof.Rows.Walk
import PyProof.ReprLen
import PySem.Challenge.RW_mixeddiffs_k14_whole_diffs_taken_apart
set_option Elab.async false
set_option linter.all false
set_option maxRecDepth 100000
set_option maxHeartbeats 1000000
/-! Mx1: plain data D, how it lies in the abstract heap (frozen: F; owned: O), and the state relation RR -/
namespace Mx
open PySem L2
/-- plain data. own, odct, oobj: a list, a dict, an instance that one place alone holds and may change; scr: the script, or a list of the module; rf i: the value of slot i, for the moment; ptp: a tuple whose object is known to have no dict (dict(t) asks for it) -/
inductive D where
  | non | bl (b : Bool) | int (i : Int) | str (x : Str)
  | tup (xs : List D) | ptp (xs : List D) | lst (xs : List D) | own (xs : List D)
  | dct (ks : List Key) (xs : List D) | odct (ks : List Key) (xs : List D)
  | obj (c : Str) (ns : List Str) (xs : List D) | oobj (c : Str) (ns : List Str) (xs : List D)
  | scr (xs : List D)
  | rf (i : Nat)
  deriving Inhabited
/-- all that G holds, H holds as well; a dict may have been locked -/
def Sub (G H : Hp) : Prop := ∀ a o, G a = some o → H a = some o ∨ ∃ kvs od, o = .dK kvs ∧ H a = some (.frz od o)
/-- all that G holds, H holds as it is -/
def Ext (G H : Hp) : Prop := ∀ a o, G a = some o → H a = some o
theorem Ext.sub {G H : Hp} (e : Ext G H) : Sub G H := fun a o h => .inl (e a o h)
theorem Ext.refl (G : Hp) : Ext G G := fun _ _ h => h
theorem Sub.refl (G : Hp) : Sub G G := fun _ _ h => .inl h
theorem Sub.get {G H : Hp} {a : Addr} {o : HO} (e : Sub G H) (h : G a = some o) (n : ∀ kvs, o ≠ .dK kvs := by intro _ z; cases z) : H a = some o := by
  rcases e a o h with z | ⟨kvs, od, z, _⟩
  · exact z
  · exact absurd z (n kvs)
theorem Sub.trans {A B C : Hp} (x : Sub A B) (y : Sub B C) : Sub A C := fun a o h => by
  rcases x a o h with z | ⟨kvs, od, z, z2⟩
  · exact y a o z
  · exact .inr ⟨kvs, od, z, y.get z2⟩
theorem Ext.new {H : Hp} {p : Addr} {o : HO} (h : H p = none) : Ext H (upd H p o) := fun a u e => by
  rw [upd_ne (ne_of_none e h)]
  exact e
theorem Sub.new {H : Hp} {p : Addr} {o : HO} (h : H p = none) : Sub H (upd H p o) := (Ext.new h).sub
theorem Sub.rdL {G H : Hp} {a : Addr} {u : HO} (e : Sub G H) (h : Rd G a u) (n : ∀ kvs, u ≠ .dK kvs := by intro _ z; cases z) : Rd H a u := by
  rcases h with h | ⟨o, h⟩
  · exact Or.inl (e.get h n)
  · exact Or.inr ⟨o, e.get h⟩
theorem Sub.rdK {G H : Hp} {a : Addr} {kvs : List (Key × V)} (e : Sub G H) (h : Rd G a (.dK kvs)) : Rd H a (.dK kvs) := by
  rcases h with h | ⟨o, h⟩
  · rcases e a _ h with z | ⟨_, od, z, z2⟩
    · exact Or.inl z
    · exact Or.inr ⟨od, z2⟩
  · exact Or.inr ⟨o, e.get h⟩
theorem Sub.sl {K : PySem.W.Frag} {G H : Hp} {a : Addr} {xs : List V} (e : Sub G H) (h : SqL K G a xs) : SqL K H a xs := h.elim (fun z => Or.inl (e.rdL z)) Or.inr
theorem Sub.st {K : PySem.W.Frag} {G H : Hp} {a : Addr} {xs : List V} (e : Sub G H) (h : SqT K G a xs) : SqT K H a xs := h.elim (fun z => Or.inl (e.rdL z)) Or.inr
theorem Sub.there {G H : Hp} {a : Addr} (e : Sub G H) (h : G a ≠ none) : H a ≠ none := by
  cases q : G a with
  | none => exact absurd q h
  | some o =>
    rcases e a o q with z | ⟨_, _, _, z⟩ <;> (rw [z]; exact fun z => nomatch z)
theorem Sub.none {G H : Hp} {a : Addr} (e : Sub G H) (h : H a = none) : G a = none := by
  cases q : G a with
  | none => rfl
  | some o => exact absurd h (e.there (by rw [q]; exact fun z => nomatch z))
/-! ### frozen data -/
mutual
def F (K : PySem.W.Frag) (G : Hp) : D → V → Prop
  | .non, v => v = .non
  | .bl b, v => v = .bl b
  | .int i, v => v = .int i
  | .str x, v => v = .str x
  | .tup ds, v => ∃ a vs, v = .ref a ∧ SqT K G a vs ∧ FL K G ds vs
  | .ptp ds, v => ∃ a o vs, v = .ref a ∧ G a = some (.frz o (.tup vs)) ∧ o.dict = none ∧ FL K G ds vs
  | .lst ds, v => ∃ a vs, v = .ref a ∧ G a = some (.lst vs) ∧ FL K G ds vs
  | .scr ds, v => ∃ a vs, v = .ref a ∧ SqL K G a vs ∧ FL K G ds vs
  | .own _, _ => False
  | .dct ks ds, v => ∃ a vs, v = .ref a ∧ Rd G a (.dK (ks.zip vs)) ∧ ks.length = vs.length ∧ FL K G ds vs
  | .odct _ _, _ => False
  | .obj c ns ds, v => ∃ a dx vs, v = .ref a ∧ G a = some (.ins (He.ga K c) dx (ns.zip vs)) ∧ ns.length = vs.length ∧ FL K G ds vs
  | .oobj _ _ _, _ => False
  | .rf _, _ => False
def FL (K : PySem.W.Frag) (G : Hp) : List D → List V → Prop
  | [], vs => vs = []
  | d :: ds, vs => ∃ v ws, vs = v :: ws ∧ F K G d v ∧ FL K G ds ws
end
/-! ### owned data -/
mutual
def O (K : PySem.W.Frag) (G H : Hp) : D → V → List Addr → Prop
  | .own ds, v, fp => ∃ a vs fq, v = .ref a ∧ fp = a :: fq ∧ H a = some (.lst vs) ∧ G a = none ∧ OL K G H ds vs fq
  | .odct ks ds, v, fp => ∃ a vs fq, v = .ref a ∧ fp = a :: fq ∧ H a = some (.dK (ks.zip vs)) ∧ G a = none ∧ ks.length = vs.length ∧ OL K G H ds vs fq
  | .oobj c ns ds, v, fp => ∃ a dx vs fq, v = .ref a ∧ fp = a :: fq ∧ H a = some (.ins (He.ga K c) dx (ns.zip vs)) ∧ G a = none ∧ ns.length = vs.length ∧ OL K G H ds vs fq
  | .non, v, fp => fp = [] ∧ v = .non
  | .bl b, v, fp => fp = [] ∧ v = .bl b
  | .int i, v, fp => fp = [] ∧ v = .int i
  | .str x, v, fp => fp = [] ∧ v = .str x
  | .tup ds, v, fp => fp = [] ∧ F K G (.tup ds) v
  | .ptp ds, v, fp => fp = [] ∧ F K G (.ptp ds) v
  | .lst ds, v, fp => fp = [] ∧ F K G (.lst ds) v
  | .scr ds, v, fp => fp = [] ∧ F K G (.scr ds) v
  | .dct ks ds, v, fp => fp = [] ∧ F K G (.dct ks ds) v
  | .obj c ns ds, v, fp => fp = [] ∧ F K G (.obj c ns ds) v
  | .rf _, _, _ => False
def OL (K : PySem.W.Frag) (G H : Hp) : List D → List V → List Addr → Prop
  | [], vs, fp => vs = [] ∧ fp = []
  | d :: ds, vs, fp => ∃ v ws f1 f2, vs = v :: ws ∧ fp = f1 ++ f2 ∧ O K G H d v f1 ∧ OL K G H ds ws f2
end
/-- not owned, no reference -/
def D.fz : D → Bool
  | .own _ | .odct _ _ | .oobj _ _ _ | .rf _ => false
  | _ => true
theorem O.of_fz {K : PySem.W.Frag} {G H : Hp} {d : D} {v : V} {fp : List Addr} (h : d.fz = true) : O K G H d v fp ↔ fp = [] ∧ F K G d v := by
  cases d <;> first | (simp only [O, F]; done) | exact nomatch h
theorem O.of_F {K : PySem.W.Frag} {G H : Hp} {d : D} {v : V} (h : F K G d v) : O K G H d v [] := by
  cases d <;> first | exact (O.of_fz rfl).mpr ⟨rfl, h⟩ | (simp only [F] at h)
theorem F.fz {K : PySem.W.Frag} {G : Hp} {d : D} {v : V} (h : F K G d v) : d.fz = true := by
  cases d <;> first | rfl | (simp only [F] at h)
mutual
theorem F.mono {K : PySem.W.Frag} {G G' : Hp} (e : Sub G G') : ∀ (d : D) (v : V), F K G d v → F K G' d v
  | .non, _, h => by simpa only [F] using h
  | .bl _, _, h => by simpa only [F] using h
  | .int _, _, h => by simpa only [F] using h
  | .str _, _, h => by simpa only [F] using h
  | .tup ds, v, h => by
    simp only [F] at h ⊢
    obtain ⟨a, vs, h1, h2, h3⟩ := h
    exact ⟨a, vs, h1, e.st h2, FL.mono e ds vs h3⟩
  | .ptp ds, v, h => by
    simp only [F] at h ⊢
    obtain ⟨a, o, vs, h1, h2, hd, h3⟩ := h
    exact ⟨a, o, vs, h1, e.get h2, hd, FL.mono e ds vs h3⟩
  | .lst ds, v, h => by
    simp only [F] at h ⊢
    obtain ⟨a, vs, h1, h2, h3⟩ := h
    exact ⟨a, vs, h1, e.get h2, FL.mono e ds vs h3⟩
  | .scr ds, v, h => by
    simp only [F] at h ⊢
    obtain ⟨a, vs, h1, h2, h3⟩ := h
    exact ⟨a, vs, h1, e.sl h2, FL.mono e ds vs h3⟩
  | .own _, _, h => by simp only [F] at h
  | .dct ks ds, v, h => by
    simp only [F] at h ⊢
    obtain ⟨a, vs, h1, h2, h4, h3⟩ := h
    exact ⟨a, vs, h1, e.rdK h2, h4, FL.mono e ds vs h3⟩
  | .odct _ _, _, h => by simp only [F] at h
  | .obj c ns ds, v, h => by
    simp only [F] at h ⊢
    obtain ⟨a, dx, vs, h1, h2, h4, h3⟩ := h
    exact ⟨a, dx, vs, h1, e.get h2, h4, FL.mono e ds vs h3⟩
  | .oobj _ _ _, _, h => by simp only [F] at h
  | .rf _, _, h => by simp only [F] at h
theorem FL.mono {K : PySem.W.Frag} {G G' : Hp} (e : Sub G G') : ∀ (ds : List D) (vs : List V), FL K G ds vs → FL K G' ds vs
  | [], _, h => by simpa only [FL] using h
  | d :: ds, vs, h => by
    simp only [FL] at h ⊢
    obtain ⟨v, ws, h1, h2, h3⟩ := h
    exact ⟨v, ws, h1, F.mono e d v h2, FL.mono e ds ws h3⟩
end
mutual
/-- G grows outside the footprint, H stays at the footprint -/
theorem O.mono {K : PySem.W.Frag} {G G' H H' : Hp} (e : Sub G G') : ∀ (d : D) (v : V) (fp : List Addr), (∀ a ∈ fp, G' a = none ∧ H' a = H a) → O K G H d v fp → O K G' H' d v fp
  | .own ds, v, fp, k, h => by
    simp only [O] at h ⊢
    obtain ⟨a, vs, fq, h1, rfl, h2, h3, h4⟩ := h
    have ka := k a (List.mem_cons_self ..)
    exact ⟨a, vs, fq, h1, rfl, by rw [ka.2]; exact h2, ka.1, OL.mono e ds vs fq (fun b hb => k b (List.mem_cons_of_mem _ hb)) h4⟩
  | .odct ks ds, v, fp, k, h => by
    simp only [O] at h ⊢
    obtain ⟨a, vs, fq, h1, rfl, h2, h3, h5, h4⟩ := h
    have ka := k a (List.mem_cons_self ..)
    exact ⟨a, vs, fq, h1, rfl, by rw [ka.2]; exact h2, ka.1, h5, OL.mono e ds vs fq (fun b hb => k b (List.mem_cons_of_mem _ hb)) h4⟩
  | .oobj c ns ds, v, fp, k, h => by
    simp only [O] at h ⊢
    obtain ⟨a, dx, vs, fq, h1, rfl, h2, h3, h5, h4⟩ := h
    have ka := k a (List.mem_cons_self ..)
    exact ⟨a, dx, vs, fq, h1, rfl, by rw [ka.2]; exact h2, ka.1, h5, OL.mono e ds vs fq (fun b hb => k b (List.mem_cons_of_mem _ hb)) h4⟩
  | .non, v, fp, k, h => by simpa only [O] using h
  | .bl _, v, fp, k, h => by simpa only [O] using h
  | .int _, v, fp, k, h => by simpa only [O] using h
  | .str _, v, fp, k, h => by simpa only [O] using h
  | .tup ds, v, fp, k, h => by
    simp only [O] at h ⊢
    exact ⟨h.1, F.mono e _ _ h.2⟩
  | .ptp ds, v, fp, k, h => by
    simp only [O] at h ⊢
    exact ⟨h.1, F.mono e _ _ h.2⟩
  | .lst ds, v, fp, k, h => by
    simp only [O] at h ⊢
    exact ⟨h.1, F.mono e _ _ h.2⟩
  | .scr ds, v, fp, k, h => by
    simp only [O] at h ⊢
    exact ⟨h.1, F.mono e _ _ h.2⟩
  | .dct ks ds, v, fp, k, h => by
    simp only [O] at h ⊢
    exact ⟨h.1, F.mono e _ _ h.2⟩
  | .obj c ns ds, v, fp, k, h => by
    simp only [O] at h ⊢
    exact ⟨h.1, F.mono e _ _ h.2⟩
  | .rf _, _, _, _, h => by simp only [O] at h
theorem OL.mono {K : PySem.W.Frag} {G G' H H' : Hp} (e : Sub G G') : ∀ (ds : List D) (vs : List V) (fp : List Addr), (∀ a ∈ fp, G' a = none ∧ H' a = H a) → OL K G H ds vs fp → OL K G' H' ds vs fp
  | [], vs, fp, k, h => by simpa only [OL] using h
  | d :: ds, vs, fp, k, h => by
    simp only [OL] at h ⊢
    obtain ⟨v, ws, f1, f2, h1, rfl, h2, h3⟩ := h
    exact ⟨v, ws, f1, f2, h1, rfl, O.mono e d v f1 (fun a ha => k a (List.mem_append_left _ ha)) h2, OL.mono e ds ws f2 (fun a ha => k a (List.mem_append_right _ ha)) h3⟩
end
/-! ### freezing -/
mutual
def D.frz : D → D
  | .own ds => .lst (frzL ds)
  | .odct ks ds => .dct ks (frzL ds)
  | .oobj c ns ds => .obj c ns (frzL ds)
  | .non => .non
  | .bl b => .bl b
  | .int i => .int i
  | .str x => .str x
  | .tup ds => .tup ds
  | .ptp ds => .ptp ds
  | .lst ds => .lst ds
  | .scr ds => .scr ds
  | .dct ks ds => .dct ks ds
  | .obj c ns ds => .obj c ns ds
  | .rf i => .rf i
def frzL : List D → List D
  | [] => []
  | d :: ds => d.frz :: frzL ds
end
theorem frzL_eq : ∀ ds : List D, frzL ds = ds.map D.frz
  | [] => by simp only [frzL, List.map_nil]
  | d :: ds => by simp only [frzL, List.map_cons, frzL_eq ds]
theorem D.frz_fz {d : D} (h : d.fz = true) : d.frz = d := by
  cases d <;> first | (simp only [D.frz]; done) | exact nomatch h
/-- G and what H has at fp -/
def addG (G H : Hp) (fp : List Addr) : Hp := fun a => if a ∈ fp then H a else G a
theorem addG_in {G H : Hp} {fp : List Addr} {a : Addr} (h : a ∈ fp) : addG G H fp a = H a := if_pos h
theorem addG_out {G H : Hp} {fp : List Addr} {a : Addr} (h : a ∉ fp) : addG G H fp a = G a := if_neg h
theorem addG_sub {G H : Hp} {fp : List Addr} (e : Sub G H) : Sub G (addG G H fp) := fun a o h => by
  by_cases q : a ∈ fp
  · rw [addG_in q]; exact e a o h
  · rw [addG_out q]; exact .inl h
theorem addG_le {G H : Hp} {fp : List Addr} (e : Sub G H) : Sub (addG G H fp) H := fun a o h => by
  by_cases q : a ∈ fp
  · rw [addG_in q] at h; exact .inl h
  · rw [addG_out q] at h; exact e a o h
theorem addG_nil {G H : Hp} : addG G H [] = G := by funext a; exact addG_out (by simp)
theorem addG_mono {G H : Hp} {f g : List Addr} (e : Sub G H) (k : ∀ a ∈ f, a ∈ g) : Sub (addG G H f) (addG G H g) := fun a o h => by
  by_cases q : a ∈ g
  · rw [addG_in q]; exact addG_le e a o h
  · rw [addG_out q]; rw [addG_out (fun z => q (k a z))] at h; exact .inl h
mutual
theorem O.frz {K : PySem.W.Frag} {G H : Hp} (e : Sub G H) : ∀ (d : D) (v : V) (fp : List Addr), O K G H d v fp → F K (addG G H fp) d.frz v
  | .own ds, v, fp, h => by
    simp only [O] at h
    obtain ⟨a, vs, fq, h1, rfl, h2, h3, h4⟩ := h
    simp only [D.frz, F]
    exact ⟨a, vs, h1, by rw [addG_in (List.mem_cons_self ..)]; exact h2, FL.mono (addG_mono e fun b hb => List.mem_cons_of_mem _ hb) _ _ (OL.frz e ds vs fq h4)⟩
  | .odct ks ds, v, fp, h => by
    simp only [O] at h
    obtain ⟨a, vs, fq, h1, rfl, h2, h3, h5, h4⟩ := h
    simp only [D.frz, F]
    exact ⟨a, vs, h1, Or.inl (by rw [addG_in (List.mem_cons_self ..)]; exact h2), h5, FL.mono (addG_mono e fun b hb => List.mem_cons_of_mem _ hb) _ _ (OL.frz e ds vs fq h4)⟩
  | .oobj c ns ds, v, fp, h => by
    simp only [O] at h
    obtain ⟨a, dx, vs, fq, h1, rfl, h2, h3, h5, h4⟩ := h
    simp only [D.frz, F]
    exact ⟨a, dx, vs, h1, by rw [addG_in (List.mem_cons_self ..)]; exact h2, h5, FL.mono (addG_mono e fun b hb => List.mem_cons_of_mem _ hb) _ _ (OL.frz e ds vs fq h4)⟩
  | .non, v, fp, h => by simp only [O] at h; simp only [D.frz, F]; exact h.2
  | .bl _, v, fp, h => by simp only [O] at h; simp only [D.frz, F]; exact h.2
  | .int _, v, fp, h => by simp only [O] at h; simp only [D.frz, F]; exact h.2
  | .str _, v, fp, h => by simp only [O] at h; simp only [D.frz, F]; exact h.2
  | .tup ds, v, fp, h => by simp only [O] at h; simp only [D.frz]; exact F.mono (addG_sub e) _ _ h.2
  | .ptp ds, v, fp, h => by simp only [O] at h; simp only [D.frz]; exact F.mono (addG_sub e) _ _ h.2
  | .lst ds, v, fp, h => by simp only [O] at h; simp only [D.frz]; exact F.mono (addG_sub e) _ _ h.2
  | .scr ds, v, fp, h => by simp only [O] at h; simp only [D.frz]; exact F.mono (addG_sub e) _ _ h.2
  | .dct ks ds, v, fp, h => by simp only [O] at h; simp only [D.frz]; exact F.mono (addG_sub e) _ _ h.2
  | .obj c ns ds, v, fp, h => by simp only [O] at h; simp only [D.frz]; exact F.mono (addG_sub e) _ _ h.2
  | .rf _, _, _, h => by simp only [O] at h
theorem OL.frz {K : PySem.W.Frag} {G H : Hp} (e : Sub G H) : ∀ (ds : List D) (vs : List V) (fp : List Addr), OL K G H ds vs fp → FL K (addG G H fp) (frzL ds) vs
  | [], vs, fp, h => by
    simp only [OL] at h
    simp only [frzL, FL]
    exact h.1
  | d :: ds, vs, fp, h => by
    simp only [OL] at h
    obtain ⟨v, ws, f1, f2, h1, rfl, h2, h3⟩ := h
    simp only [frzL, FL]
    exact ⟨v, ws, h1, F.mono (addG_mono e fun b hb => List.mem_append_left _ hb) _ _ (O.frz e d v f1 h2), FL.mono (addG_mono e fun b hb => List.mem_append_right _ hb) _ _ (OL.frz e ds ws f2 h3)⟩
end
mutual
/-- what is in a footprint is tracked, and not frozen -/
theorem O.fp {K : PySem.W.Frag} {G H : Hp} : ∀ (d : D) (v : V) (fp : List Addr), O K G H d v fp → ∀ a ∈ fp, G a = none ∧ H a ≠ none
  | .own ds, v, fp, h, b, hb => by
    simp only [O] at h
    obtain ⟨a, vs, fq, h1, rfl, h2, h3, h4⟩ := h
    rcases List.mem_cons.mp hb with rfl | hb
    · exact ⟨h3, by rw [h2]; exact fun z => nomatch z⟩
    · exact OL.fp ds vs fq h4 b hb
  | .odct ks ds, v, fp, h, b, hb => by
    simp only [O] at h
    obtain ⟨a, vs, fq, h1, rfl, h2, h3, h5, h4⟩ := h
    rcases List.mem_cons.mp hb with rfl | hb
    · exact ⟨h3, by rw [h2]; exact fun z => nomatch z⟩
    · exact OL.fp ds vs fq h4 b hb
  | .oobj c ns ds, v, fp, h, b, hb => by
    simp only [O] at h
    obtain ⟨a, dx, vs, fq, h1, rfl, h2, h3, h5, h4⟩ := h
    rcases List.mem_cons.mp hb with rfl | hb
    · exact ⟨h3, by rw [h2]; exact fun z => nomatch z⟩
    · exact OL.fp ds vs fq h4 b hb
  | .non, v, fp, h, b, hb => by simp only [O] at h; rw [h.1] at hb; cases hb
  | .bl _, v, fp, h, b, hb => by simp only [O] at h; rw [h.1] at hb; cases hb
  | .int _, v, fp, h, b, hb => by simp only [O] at h; rw [h.1] at hb; cases hb
  | .str _, v, fp, h, b, hb => by simp only [O] at h; rw [h.1] at hb; cases hb
  | .tup ds, v, fp, h, b, hb => by simp only [O] at h; rw [h.1] at hb; cases hb
  | .ptp ds, v, fp, h, b, hb => by simp only [O] at h; rw [h.1] at hb; cases hb
  | .lst ds, v, fp, h, b, hb => by simp only [O] at h; rw [h.1] at hb; cases hb
  | .scr ds, v, fp, h, b, hb => by simp only [O] at h; rw [h.1] at hb; cases hb
  | .dct ks ds, v, fp, h, b, hb => by simp only [O] at h; rw [h.1] at hb; cases hb
  | .obj c ns ds, v, fp, h, b, hb => by simp only [O] at h; rw [h.1] at hb; cases hb
  | .rf _, _, _, h, _, _ => by simp only [O] at h
theorem OL.fp {K : PySem.W.Frag} {G H : Hp} : ∀ (ds : List D) (vs : List V) (fp : List Addr), OL K G H ds vs fp → ∀ a ∈ fp, G a = none ∧ H a ≠ none
  | [], vs, fp, h, b, hb => by
    simp only [OL] at h
    rw [h.2] at hb; cases hb
  | d :: ds, vs, fp, h, b, hb => by
    simp only [OL] at h
    obtain ⟨v, ws, f1, f2, h1, rfl, h2, h3⟩ := h
    rcases List.mem_append.mp hb with hb | hb
    · exact O.fp d v f1 h2 b hb
    · exact OL.fp ds ws f2 h3 b hb
end
theorem FL.length {K : PySem.W.Frag} {G : Hp} : ∀ {ds : List D} {vs : List V}, FL K G ds vs → ds.length = vs.length
  | [], vs, h => by simp only [FL] at h; rw [h]; rfl
  | d :: ds, vs, h => by
    simp only [FL] at h
    obtain ⟨v, ws, rfl, _, h3⟩ := h
    simp [FL.length h3]
theorem OL.length {K : PySem.W.Frag} {G H : Hp} : ∀ {ds : List D} {vs : List V} {fp : List Addr}, OL K G H ds vs fp → ds.length = vs.length
  | [], vs, fp, h => by simp only [OL] at h; rw [h.1]; rfl
  | d :: ds, vs, fp, h => by
    simp only [OL] at h
    obtain ⟨v, ws, _, _, rfl, _, _, h3⟩ := h
    simp [OL.length h3]
theorem FL.get {K : PySem.W.Frag} {G : Hp} : ∀ {ds : List D} {vs : List V} {i : Nat} {d : D}, FL K G ds vs → ds[i]? = some d → ∃ v, vs[i]? = some v ∧ F K G d v
  | [], vs, i, d, h, e => by simp at e
  | x :: ds, vs, 0, d, h, e => by
    simp only [FL] at h
    obtain ⟨v, ws, rfl, h2, h3⟩ := h
    simp at e
    subst e
    exact ⟨v, rfl, h2⟩
  | x :: ds, vs, i + 1, d, h, e => by
    simp only [FL] at h
    obtain ⟨v, ws, rfl, h2, h3⟩ := h
    obtain ⟨u, h4, h5⟩ := FL.get (i := i) (d := d) h3 (by simpa using e)
    exact ⟨u, by simpa using h4, h5⟩
theorem FL.append {K : PySem.W.Frag} {G : Hp} : ∀ {ds es : List D} {vs ws : List V}, FL K G ds vs → FL K G es ws → FL K G (ds ++ es) (vs ++ ws)
  | [], es, vs, ws, h, k => by
    simp only [FL] at h
    subst h
    exact k
  | d :: ds, es, vs, ws, h, k => by
    simp only [FL] at h
    obtain ⟨v, us, rfl, h2, h3⟩ := h
    simp only [List.cons_append, FL]
    exact ⟨v, us ++ ws, rfl, h2, FL.append h3 k⟩
theorem FL.take {K : PySem.W.Frag} {G : Hp} : ∀ {ds : List D} {vs : List V} (n : Nat), FL K G ds vs → FL K G (ds.take n) (vs.take n)
  | _, _, 0, _ => by simp [FL]
  | [], vs, n + 1, h => by
    simp only [FL] at h
    subst h
    simp [FL]
  | d :: ds, vs, n + 1, h => by
    simp only [FL] at h
    obtain ⟨v, us, rfl, h2, h3⟩ := h
    simp only [List.take_succ_cons, FL]
    exact ⟨v, _, rfl, h2, FL.take n h3⟩
theorem FL.drop {K : PySem.W.Frag} {G : Hp} : ∀ {ds : List D} {vs : List V} (n : Nat), FL K G ds vs → FL K G (ds.drop n) (vs.drop n)
  | _, _, 0, h => by simpa using h
  | [], vs, n + 1, h => by
    simp only [FL] at h
    subst h
    simp [FL]
  | d :: ds, vs, n + 1, h => by
    simp only [FL] at h
    obtain ⟨v, us, rfl, h2, h3⟩ := h
    simpa using FL.drop n h3
theorem FL.reverse {K : PySem.W.Frag} {G : Hp} : ∀ {ds : List D} {vs : List V}, FL K G ds vs → FL K G ds.reverse vs.reverse
  | [], vs, h => by
    simp only [FL] at h
    subst h
    simp [FL]
  | d :: ds, vs, h => by
    simp only [FL] at h
    obtain ⟨v, us, rfl, h2, h3⟩ := h
    simp only [List.reverse_cons]
    exact (FL.reverse h3).append (by simp only [FL]; exact ⟨v, [], rfl, h2, rfl⟩)
theorem OL.append {K : PySem.W.Frag} {G H : Hp} : ∀ {ds es : List D} {vs ws : List V} {f g : List Addr}, OL K G H ds vs f → OL K G H es ws g → OL K G H (ds ++ es) (vs ++ ws) (f ++ g)
  | [], es, vs, ws, f, g, h, k => by
    simp only [OL] at h
    obtain ⟨rfl, rfl⟩ := h
    exact k
  | d :: ds, es, vs, ws, f, g, h, k => by
    simp only [OL] at h
    obtain ⟨v, us, f1, f2, rfl, rfl, h2, h3⟩ := h
    simp only [List.cons_append, OL]
    exact ⟨v, us ++ ws, f1, f2 ++ g, rfl, by simp, h2, OL.append h3 k⟩
theorem OL.one {K : PySem.W.Frag} {G H : Hp} {d : D} {v : V} {f : List Addr} (h : O K G H d v f) : OL K G H [d] [v] f := by
  simp only [OL]
  exact ⟨v, [], f, [], rfl, by simp, h, rfl, rfl⟩
theorem OL.of_FL {K : PySem.W.Frag} {G H : Hp} : ∀ {ds : List D} {vs : List V}, FL K G ds vs → OL K G H ds vs []
  | [], vs, h => by
    simp only [FL] at h
    simp only [OL]
    exact ⟨h, trivial⟩
  | d :: ds, vs, h => by
    simp only [FL] at h
    obtain ⟨v, ws, rfl, h2, h3⟩ := h
    simp only [OL]
    exact ⟨v, ws, [], [], rfl, rfl, O.of_F h2, OL.of_FL h3⟩
/-- all frozen -/
def fzL (ds : List D) : Bool := ds.all D.fz
theorem OL.to_FL {K : PySem.W.Frag} {G H : Hp} : ∀ {ds : List D} {vs : List V} {f : List Addr}, fzL ds = true → OL K G H ds vs f → f = [] ∧ FL K G ds vs
  | [], vs, f, _, h => by
    simp only [OL] at h
    simp only [FL]
    exact ⟨h.2, h.1⟩
  | d :: ds, vs, f, hz, h => by
    simp only [OL] at h
    obtain ⟨v, ws, f1, f2, rfl, rfl, h2, h3⟩ := h
    simp only [fzL, List.all_cons, Bool.and_eq_true] at hz
    obtain ⟨rfl, h4⟩ := (O.of_fz hz.1).mp h2
    obtain ⟨rfl, h5⟩ := OL.to_FL hz.2 h3
    simp only [FL]
    exact ⟨rfl, v, ws, rfl, h4, h5⟩
end Mx
set_option Elab.async false
set_option linter.all false
set_option maxRecDepth 100000
set_option maxHeartbeats 1000000
/-! Mx2: the state relation RR: temporaries and slots, what they own, what is frozen -/
namespace Mx
open PySem L2
abbrev Env := List (Option D)
/-- slots -/
def Sl (K : PySem.W.Frag) (G H : Hp) : Env → St → List (List Addr) → Prop
  | [], σ, W => σ = [] ∧ W = []
  | none :: env, σ, W => ∃ x σ' W', σ = x :: σ' ∧ W = [] :: W' ∧ Sl K G H env σ' W'
  | some d :: env, σ, W => ∃ v σ' w W', σ = some v :: σ' ∧ W = w :: W' ∧ O K G H d v w ∧ Sl K G H env σ' W'
/-- a temporary: owned, frozen, or a reference to a slot -/
def Tm (K : PySem.W.Frag) (G H : Hp) (σ : St) : D → V → List Addr → Prop
  | .rf i, v, w => w = [] ∧ σ[i]? = some (some v)
  | d, v, w => O K G H d v w
def Tl (K : PySem.W.Frag) (G H : Hp) (σ : St) : List D → List V → List (List Addr) → Prop
  | [], vs, ws => vs = [] ∧ ws = []
  | d :: ds, vs, ws => ∃ v us w xs, vs = v :: us ∧ ws = w :: xs ∧ Tm K G H σ d v w ∧ Tl K G H σ ds us xs
section
variable {K : PySem.W.Frag} {G G' H H' : Hp} {σ : St} {env : Env} {W : List (List Addr)}
theorem Tm.of_O {d : D} {v : V} {w : List Addr} (h : O K G H d v w) : Tm K G H σ d v w := by
  cases d <;> first | exact h | (simp only [O] at h)
theorem Tm.of_F {d : D} {v : V} (h : F K G d v) : Tm K G H σ d v [] := Tm.of_O (O.of_F h)
theorem Tm.mono (e : Sub G G') {d : D} {v : V} {w : List Addr} (k : ∀ a ∈ w, G' a = none ∧ H' a = H a) (h : Tm K G H σ d v w) : Tm K G' H' σ d v w := by
  cases d <;> first | exact O.mono e _ _ _ k h | exact h
theorem Tl.mono (e : Sub G G') : ∀ {ds : List D} {vs : List V} {ws : List (List Addr)}, (∀ a ∈ ws.flatten, G' a = none ∧ H' a = H a) → Tl K G H σ ds vs ws → Tl K G' H' σ ds vs ws
  | [], vs, ws, k, h => h
  | d :: ds, vs, ws, k, h => by
    simp only [Tl] at h ⊢
    obtain ⟨v, us, w, xs, rfl, rfl, h1, h2⟩ := h
    simp only [List.flatten_cons] at k
    exact ⟨v, us, w, xs, rfl, rfl, h1.mono e fun a ha => k a (List.mem_append_left _ ha), h2.mono e fun a ha => k a (List.mem_append_right _ ha)⟩
theorem Sl.mono (e : Sub G G') : ∀ {env : Env} {σ : St} {W : List (List Addr)}, (∀ a ∈ W.flatten, G' a = none ∧ H' a = H a) → Sl K G H env σ W → Sl K G' H' env σ W
  | [], σ, W, k, h => h
  | none :: env, σ, W, k, h => by
    simp only [Sl] at h ⊢
    obtain ⟨x, σ', W', rfl, rfl, h1⟩ := h
    simp only [List.flatten_cons] at k
    exact ⟨x, σ', W', rfl, rfl, h1.mono e fun a ha => k a (List.mem_append_right _ ha)⟩
  | some d :: env, σ, W, k, h => by
    simp only [Sl] at h ⊢
    obtain ⟨v, σ', w, W', rfl, rfl, h0, h1⟩ := h
    simp only [List.flatten_cons] at k
    exact ⟨v, σ', w, W', rfl, rfl, O.mono e _ _ _ (fun a ha => k a (List.mem_append_left _ ha)) h0, h1.mono e fun a ha => k a (List.mem_append_right _ ha)⟩
theorem Sl.len : ∀ {env : Env} {σ : St} {W : List (List Addr)}, Sl K G H env σ W → env.length = σ.length ∧ env.length = W.length
  | [], σ, W, h => by
    simp only [Sl] at h
    obtain ⟨rfl, rfl⟩ := h
    exact ⟨rfl, rfl⟩
  | none :: env, σ, W, h => by
    simp only [Sl] at h
    obtain ⟨x, σ', W', rfl, rfl, h1⟩ := h
    simp [h1.len.1.symm, h1.len.2.symm]
  | some d :: env, σ, W, h => by
    simp only [Sl] at h
    obtain ⟨v, σ', w, W', rfl, rfl, h0, h1⟩ := h
    simp [h1.len.1.symm, h1.len.2.symm]
theorem Sl.get : ∀ {env : Env} {σ : St} {W : List (List Addr)} {i : Nat} {d : D}, Sl K G H env σ W → env[i]? = some (some d) → ∃ v w, σ[i]? = some (some v) ∧ W[i]? = some w ∧ O K G H d v w
  | [], σ, W, i, d, h, e => by simp at e
  | none :: env, σ, W, 0, d, h, e => by simp at e
  | some d' :: env, σ, W, 0, d, h, e => by
    simp only [Sl] at h
    obtain ⟨v, σ', w, W', rfl, rfl, h0, h1⟩ := h
    simp at e
    subst e
    exact ⟨v, w, rfl, rfl, h0⟩
  | none :: env, σ, W, i + 1, d, h, e => by
    simp only [Sl] at h
    obtain ⟨x, σ', W', rfl, rfl, h1⟩ := h
    obtain ⟨v, w, a, b, c⟩ := h1.get (i := i) (d := d) (by simpa using e)
    exact ⟨v, w, by simpa using a, by simpa using b, c⟩
  | some d' :: env, σ, W, i + 1, d, h, e => by
    simp only [Sl] at h
    obtain ⟨v, σ', w, W', rfl, rfl, h0, h1⟩ := h
    obtain ⟨v, w, a, b, c⟩ := h1.get (i := i) (d := d) (by simpa using e)
    exact ⟨v, w, by simpa using a, by simpa using b, c⟩
theorem Sl.set : ∀ {env : Env} {σ : St} {W : List (List Addr)} {i : Nat} {d : D} {v : V} {w : List Addr}, Sl K G H env σ W → O K G H d v w → i < env.length → Sl K G H (env.set i (some d)) (σ.set i (some v)) (W.set i w)
  | [], σ, W, i, d, v, w, h, o, l => absurd l (by simp)
  | none :: env, σ, W, 0, d, v, w, h, o, l => by
    simp only [Sl] at h
    obtain ⟨x, σ', W', rfl, rfl, h1⟩ := h
    simp only [List.set_cons_zero, Sl]
    exact ⟨v, σ', w, W', rfl, rfl, o, h1⟩
  | some d' :: env, σ, W, 0, d, v, w, h, o, l => by
    simp only [Sl] at h
    obtain ⟨v', σ', w', W', rfl, rfl, h0, h1⟩ := h
    simp only [List.set_cons_zero, Sl]
    exact ⟨v, σ', w, W', rfl, rfl, o, h1⟩
  | none :: env, σ, W, i + 1, d, v, w, h, o, l => by
    simp only [Sl] at h
    obtain ⟨x, σ', W', rfl, rfl, h1⟩ := h
    simp only [List.set_cons_succ, Sl]
    exact ⟨x, _, _, rfl, rfl, h1.set o (by simpa using l)⟩
  | some d' :: env, σ, W, i + 1, d, v, w, h, o, l => by
    simp only [Sl] at h
    obtain ⟨v', σ', w', W', rfl, rfl, h0, h1⟩ := h
    simp only [List.set_cons_succ, Sl]
    exact ⟨v', _, w', _, rfl, rfl, h0, h1.set o (by simpa using l)⟩
def setO (σ : St) (i : Nat) : Option (Option V) → St
  | some y => σ.set i y
  | none => σ
/-- a slot is forgotten; its value may be anything -/
theorem Sl.kill (x : Option (Option V)) : ∀ {env : Env} {σ : St} {W : List (List Addr)} {i : Nat}, Sl K G H env σ W → Sl K G H (env.set i none) (setO σ i x) (W.set i [])
  | [], σ, W, i, h => by
    simp only [Sl] at h
    obtain ⟨rfl, rfl⟩ := h
    cases x <;> simp [Sl, setO]
  | none :: env, σ, W, 0, h => by
    simp only [Sl] at h
    obtain ⟨y, σ', W', rfl, rfl, h1⟩ := h
    simp only [List.set_cons_zero, Sl]
    cases x <;> simp only [setO, List.set_cons_zero] <;> exact ⟨_, σ', W', rfl, rfl, h1⟩
  | some d' :: env, σ, W, 0, h => by
    simp only [Sl] at h
    obtain ⟨v', σ', w', W', rfl, rfl, h0, h1⟩ := h
    simp only [List.set_cons_zero, Sl]
    cases x <;> simp only [setO, List.set_cons_zero] <;> exact ⟨_, σ', W', rfl, rfl, h1⟩
  | none :: env, σ, W, i + 1, h => by
    simp only [Sl] at h
    obtain ⟨y, σ', W', rfl, rfl, h1⟩ := h
    have q := Sl.kill x (i := i) h1
    simp only [List.set_cons_succ, Sl]
    cases x <;> simp only [setO, List.set_cons_succ] at q ⊢ <;> exact ⟨y, _, _, rfl, rfl, q⟩
  | some d' :: env, σ, W, i + 1, h => by
    simp only [Sl] at h
    obtain ⟨v', σ', w', W', rfl, rfl, h0, h1⟩ := h
    have q := Sl.kill x (i := i) h1
    simp only [List.set_cons_succ, Sl]
    cases x <;> simp only [setO, List.set_cons_succ] at q ⊢ <;> exact ⟨v', _, w', _, rfl, rfl, h0, q⟩
theorem Tl.split : ∀ {a b : List D} {tv : List V} {tw : List (List Addr)}, Tl K G H σ (a ++ b) tv tw → ∃ va vb wa wb, tv = va ++ vb ∧ tw = wa ++ wb ∧ va.length = a.length ∧ wa.length = a.length ∧ Tl K G H σ a va wa ∧ Tl K G H σ b vb wb
  | [], b, tv, tw, h => ⟨[], tv, [], tw, rfl, rfl, rfl, rfl, by simp [Tl], h⟩
  | d :: a, b, tv, tw, h => by
    simp only [List.cons_append, Tl] at h
    obtain ⟨v, us, w, xs, rfl, rfl, h1, h2⟩ := h
    obtain ⟨va, vb, wa, wb, rfl, rfl, h3, h4, h5, h6⟩ := h2.split
    refine ⟨v :: va, vb, w :: wa, wb, rfl, rfl, by simp [h3], by simp [h4], ?_, h6⟩
    simp only [Tl]
    exact ⟨v, va, w, wa, rfl, rfl, h1, h5⟩
theorem Tl.len : ∀ {ds : List D} {tv : List V} {tw : List (List Addr)}, Tl K G H σ ds tv tw → ds.length = tv.length ∧ ds.length = tw.length
  | [], tv, tw, h => by
    simp only [Tl] at h
    obtain ⟨rfl, rfl⟩ := h
    exact ⟨rfl, rfl⟩
  | d :: ds, tv, tw, h => by
    simp only [Tl] at h
    obtain ⟨v, us, w, xs, rfl, rfl, h1, h2⟩ := h
    simp [h2.len.1.symm, h2.len.2.symm]
theorem Tl.append : ∀ {a b : List D} {va vb : List V} {wa wb : List (List Addr)}, Tl K G H σ a va wa → Tl K G H σ b vb wb → Tl K G H σ (a ++ b) (va ++ vb) (wa ++ wb)
  | [], b, va, vb, wa, wb, h, k => by
    simp only [Tl] at h
    obtain ⟨rfl, rfl⟩ := h
    exact k
  | d :: a, b, va, vb, wa, wb, h, k => by
    simp only [Tl] at h
    obtain ⟨v, us, w, xs, rfl, rfl, h1, h2⟩ := h
    simp only [List.cons_append, Tl]
    exact ⟨v, us ++ vb, w, xs ++ wb, rfl, rfl, h1, h2.append k⟩
/-- with the slots of σ changed, where no reference looks -/
theorem Tl.slots {σ' : St} : ∀ {ds : List D} {vs : List V} {ws : List (List Addr)}, (∀ i, D.rf i ∈ ds → σ'[i]? = σ[i]?) → Tl K G H σ ds vs ws → Tl K G H σ' ds vs ws
  | [], vs, ws, k, h => h
  | d :: ds, vs, ws, k, h => by
    simp only [Tl] at h ⊢
    obtain ⟨v, us, w, xs, rfl, rfl, h1, h2⟩ := h
    refine ⟨v, us, w, xs, rfl, rfl, ?_, h2.slots fun i hi => k i (List.mem_cons_of_mem _ hi)⟩
    cases d <;> first | exact h1 | (refine ⟨h1.1, ?_⟩; rw [k _ (List.mem_cons_self ..)]; exact h1.2)
end
/-! ### permutations of footprints -/
theorem flat_out : ∀ {W : List (List Addr)} {i : Nat} {w : List Addr}, W[i]? = some w → W.flatten.Perm (w ++ (W.set i []).flatten)
  | [], i, w, h => by simp at h
  | x :: W, 0, w, h => by
    simp at h
    subst h
    simp
  | x :: W, i + 1, w, h => by
    have q := flat_out (W := W) (i := i) (w := w) (by simpa using h)
    simp only [List.flatten_cons, List.set_cons_succ]
    refine (q.append_left x).trans ?_
    rw [← List.append_assoc, ← List.append_assoc]
    exact List.perm_append_comm.append_right _
theorem flat_set {W : List (List Addr)} {i : Nat} {w : List Addr} (h : i < W.length) : (W.set i w).flatten.Perm (w ++ (W.set i []).flatten) := by
  have q := flat_out (W := W.set i w) (i := i) (w := w) (by rw [List.getElem?_set_self h])
  rwa [List.set_set] at q
theorem flat_none (W : List (List Addr)) (i : Nat) : ∀ a ∈ (W.set i []).flatten, a ∈ W.flatten := fun a ha => by
  by_cases h : i < W.length
  · have q := flat_out (W := W) (i := i) (w := W[i]) (by simp [h])
    exact q.mem_iff.mpr (List.mem_append_right _ ha)
  · rw [List.set_eq_of_length_le (by omega)] at ha
    exact ha
/-- an own exception as data: its class, its attributes -/
structure Xn where
  c : Str
  ns : List Str
  ds : List D
/-- where a text stands: the written part; within an except suite the handled exception and its dict's address -/
structure Ct where
  K : PySem.W.Frag
  xd : Option Addr := none
  xn : Option Xn := none
/-- what is known at a def's entry: the heap H0, the frozen part B, the objects I that may be changed -/
structure Sc where
  C : Ct
  H0 : Hp
  B : Hp
  I : List Addr
abbrev Sc.K (S : Sc) : PySem.W.Frag := S.C.K
/-- the attributes of an exception lie in its dict -/
def XD (K : PySem.W.Frag) (G : Hp) (x : Xn) (dd : Addr) : Prop := ∃ vs, G dd = some (.xd (x.ns.zip vs)) ∧ x.ns.length = vs.length ∧ FL K G x.ds vs
theorem XD.mono {K : PySem.W.Frag} {G G' : Hp} {x : Xn} {dd : Addr} (e : Sub G G') (h : XD K G x dd) : XD K G' x dd := by
  obtain ⟨vs, h1, h2, h3⟩ := h
  exact ⟨vs, e.get h1, h2, FL.mono e _ _ h3⟩
structure RR (S : Sc) (G : Hp) (td : List D) (tv : List V) (tw : List (List Addr)) (env : Env) (σ : St) (W : List (List Addr)) (H : Hp) : Prop where
  tl : Tl S.K G H σ td tv tw
  sl : Sl S.K G H env σ W
  nd : (tw.flatten ++ W.flatten).Nodup
  own : ∀ a ∈ tw.flatten ++ W.flatten, S.H0 a = none ∨ a ∈ S.I
  fp : ∀ a ∈ tw.flatten ++ W.flatten, G a = none ∧ H a ≠ none
  sub : Sub G H
  base : Sub S.B G
  frame : ∀ a o, S.H0 a = some o → a ∉ S.I → H a = some o ∨ (S.B a = some o ∧ ∃ kvs od, o = .dK kvs ∧ H a = some (.frz od o))
  dom : ∀ a, S.H0 a ≠ none → H a ≠ none
  gdom : ∀ a, G a ≠ none → S.B a ≠ none ∨ S.H0 a = none ∨ a ∈ S.I
  gx : ∀ x, S.C.xn = some x → ∃ dd, S.C.xd = some dd ∧ XD S.K G x dd
section
variable {S : Sc} {G G' H H' : Hp} {td : List D} {tv : List V} {tw : List (List Addr)} {env : Env} {σ : St} {W : List (List Addr)} {d : D} {v : V} {w : List Addr}
theorem RR.fresh (R : RR S G td tv tw env σ W H) {p : Addr} (h : H p = none) : S.H0 p = none := by
  cases e : S.H0 p with
  | none => rfl
  | some o => exact absurd h (R.dom p (by rw [e]; exact fun z => nomatch z))
theorem RR.notin (R : RR S G td tv tw env σ W H) {p : Addr} (h : H p = none) : p ∉ tw.flatten ++ W.flatten := fun z => (R.fp p z).2 h
/-- G and H grow, what is owned stays -/
theorem RR.step (R : RR S G td tv tw env σ W H) (e : Sub G G') (s : Sub G' H') (k : ∀ a ∈ tw.flatten ++ W.flatten, G' a = none ∧ H' a = H a)
    (kf : ∀ a o, H a = some o → H' a = some o ∨ S.H0 a = none ∨ a ∈ S.I) (kd : ∀ a, H a ≠ none → H' a ≠ none) (kg : ∀ a, G' a ≠ none → G a ≠ none ∨ S.H0 a = none ∨ a ∈ S.I) : RR S G' td tv tw env σ W H' where
  tl := R.tl.mono e fun a ha => k a (List.mem_append_left _ ha)
  sl := R.sl.mono e fun a ha => k a (List.mem_append_right _ ha)
  nd := R.nd
  own := R.own
  fp := fun a ha => ⟨(k a ha).1, by rw [(k a ha).2]; exact (R.fp a ha).2⟩
  sub := s
  base := R.base.trans e
  frame := fun a o h n => by
    rcases R.frame a o h n with q | ⟨q, kvs, od, q2, q3⟩
    · rcases kf a o q with z | z | z
      · exact .inl z
      · rw [h] at z; cases z
      · exact absurd z n
    · rcases kf a _ q3 with z | z | z
      · exact .inr ⟨q, kvs, od, q2, z⟩
      · rw [h] at z; cases z
      · exact absurd z n
  dom := fun a h => kd a (R.dom a h)
  gdom := fun a h => by
    rcases kg a h with z | z
    · exact R.gdom a z
    · exact .inr z
  gx := fun x h => by
    obtain ⟨dd, h1, h2⟩ := R.gx x h
    exact ⟨dd, h1, h2.mono e⟩
/-- H grows -/
theorem RR.grow (R : RR S G td tv tw env σ W H) (e : Ext H H') : RR S G td tv tw env σ W H' :=
  R.step (Sub.refl G) (R.sub.trans e.sub) (fun a ha => ⟨(R.fp a ha).1, by
    cases q : H a with
    | none => exact absurd q (R.fp a ha).2
    | some o => exact e a o q⟩) (fun a o h => .inl (e a o h)) (fun a h => e.sub.there h) fun a h => .inl h
/-- G grows by what H holds anew -/
theorem RR.growG (R : RR S G td tv tw env σ W H) (e : Ext H H') (g : Sub G G') (s : Sub G' H') (n : ∀ a, G' a ≠ none → G a ≠ none ∨ H a = none) : RR S G' td tv tw env σ W H' :=
  (R.grow e).step g s (fun a ha => ⟨by
    cases q : G' a with
    | none => rfl
    | some o =>
      rcases n a (by rw [q]; exact fun z => nomatch z) with z | z
      · exact absurd (R.fp a ha).1 z
      · exact absurd z (R.fp a ha).2, rfl⟩) (fun a o h => .inl h) (fun a h => h) fun a h => by
    rcases n a h with z | z
    · exact .inl z
    · exact .inr (.inl (R.fresh z))
/-- a frozen dict is locked -/
theorem RR.lock (R : RR S G td tv tw env σ W H) {p : Addr} {kvs : List (Key × V)} {od : Obj} (g : G p = some (.dK kvs)) (h : H p = some (.dK kvs)) : RR S (upd G p (.frz od (.dK kvs))) td tv tw env σ W (upd H p (.frz od (.dK kvs))) := by
  have s1 : Sub G (upd G p (.frz od (.dK kvs))) := fun a o e => by
    by_cases z : a = p
    · subst z; rw [g] at e; cases e; exact .inr ⟨kvs, od, rfl, upd_same⟩
    · exact .inl (by rw [upd_ne z]; exact e)
  have ne : ∀ a ∈ tw.flatten ++ W.flatten, a ≠ p := fun a ha z => by rw [z] at ha; rw [(R.fp p ha).1] at g; cases g
  have k : ∀ a ∈ tw.flatten ++ W.flatten, (upd G p (.frz od (.dK kvs))) a = none ∧ (upd H p (.frz od (.dK kvs))) a = H a := fun a ha => ⟨by rw [upd_ne (ne a ha)]; exact (R.fp a ha).1, upd_ne (ne a ha)⟩
  refine ⟨R.tl.mono s1 fun a ha => k a (List.mem_append_left _ ha), R.sl.mono s1 fun a ha => k a (List.mem_append_right _ ha), R.nd, R.own, fun a ha => ⟨(k a ha).1, by rw [(k a ha).2]; exact (R.fp a ha).2⟩, fun a o e => ?_, R.base.trans s1, fun a o e n => ?_, fun a e => ?_, fun a e => ?_, fun x e => ?_⟩
  · by_cases z : a = p
    · subst z; rw [upd_same] at e ⊢; exact .inl e
    · rw [upd_ne z] at e ⊢; exact R.sub a o e
  · by_cases z : a = p
    · subst z
      rcases R.frame a o e n with q | ⟨q, _, _, _, q3⟩
      · rw [h] at q; cases q
        refine .inr ⟨?_, kvs, od, rfl, upd_same⟩
        rcases R.gdom a (by rw [g]; exact fun z => nomatch z) with z | z | z
        · cases q : S.B a with
          | none => exact absurd q z
          | some o' =>
            rcases R.base a o' q with z | ⟨_, _, _, z⟩
            · rw [g] at z; cases z; rfl
            · rw [g] at z; cases z
        · rw [e] at z; cases z
        · exact absurd z n
      · rw [h] at q3; cases q3
    · rw [upd_ne z]; exact R.frame a o e n
  · by_cases z : a = p
    · subst z; rw [upd_same]; exact fun z => nomatch z
    · rw [upd_ne z]; exact R.dom a e
  · by_cases z : a = p
    · subst z; exact R.gdom a (by rw [g]; exact fun z => nomatch z)
    · rw [upd_ne z] at e; exact R.gdom a e
  · obtain ⟨dd, h1, h2⟩ := R.gx x e
    exact ⟨dd, h1, h2.mono s1⟩
theorem RR.push (R : RR S G td tv tw env σ W H) (h : F S.K G d v) : RR S G (d :: td) (v :: tv) ([] :: tw) env σ W H :=
  ⟨by simp only [Tl]; exact ⟨v, tv, [], tw, rfl, rfl, Tm.of_F h, R.tl⟩, R.sl, by simpa using R.nd, by simpa using R.own, by simpa using R.fp, R.sub, R.base, R.frame, R.dom, R.gdom, R.gx⟩
theorem RR.pushR (R : RR S G td tv tw env σ W H) {i : Nat} (h : σ[i]? = some (some v)) : RR S G (.rf i :: td) (v :: tv) ([] :: tw) env σ W H :=
  ⟨by simp only [Tl]; exact ⟨v, tv, [], tw, rfl, rfl, ⟨rfl, h⟩, R.tl⟩, R.sl, by simpa using R.nd, by simpa using R.own, by simpa using R.fp, R.sub, R.base, R.frame, R.dom, R.gdom, R.gx⟩
theorem RR.pop (R : RR S G (d :: td) (v :: tv) tw env σ W H) : ∃ w tw', tw = w :: tw' ∧ RR S G td tv tw' env σ W H := by
  have h := R.tl
  simp only [Tl] at h
  obtain ⟨v', us, w, xs, e1, rfl, h1, h2⟩ := h
  cases e1
  have sb : ∀ a, a ∈ xs.flatten ++ W.flatten → a ∈ (w :: xs).flatten ++ W.flatten := fun a ha => by
    simp only [List.flatten_cons, List.append_assoc]
    exact List.mem_append_right _ ha
  refine ⟨w, xs, rfl, h2, R.sl, ?_, fun a ha => R.own a (sb a ha), fun a ha => R.fp a (sb a ha), R.sub, R.base, R.frame, R.dom, R.gdom, R.gx⟩
  have q := R.nd
  simp only [List.flatten_cons, List.append_assoc] at q
  exact (List.nodup_append.mp q).2.1
/-- the top temporary as it lies -/
theorem RR.top (R : RR S G (d :: td) (v :: tv) tw env σ W H) : ∃ w, Tm S.K G H σ d v w := by
  have h := R.tl
  simp only [Tl] at h
  obtain ⟨v', us, w, xs, e1, rfl, h1, h2⟩ := h
  cases e1
  exact ⟨w, h1⟩
/-- what a temporary stands for -/
def deref (env : Env) : D → Option D
  | .rf i => match env[i]? with
    | some (some d) => some d
    | _ => none
  | d => some d
theorem deref_rf {i : Nat} {e : D} (h : deref env (.rf i) = some e) : env[i]? = some (some e) := by
  simp only [deref] at h
  split at h
  · cases h; assumption
  · cases h
theorem Tm.look (sl : Sl S.K G H env σ W) {e : D} (h : Tm S.K G H σ d v w) (q : deref env d = some e) : ∃ w', O S.K G H e v w' := by
  cases d with
  | rf i =>
    obtain ⟨v', w', e1, _, o⟩ := sl.get (deref_rf q)
    have z : σ[i]? = some (some v) := h.2
    rw [z] at e1
    cases e1
    exact ⟨w', o⟩
  | _ => cases q; exact ⟨w, h⟩
theorem RR.look (R : RR S G (d :: td) (v :: tv) tw env σ W H) {e : D} (q : deref env d = some e) : ∃ w', O S.K G H e v w' := by
  obtain ⟨w, h⟩ := R.top
  exact h.look R.sl q
theorem O.rd (e : Sub G H) {d : D} {v : V} {w : List Addr} (h : O S.K G H d v w) (z : d.fz = true) : F S.K H d v := F.mono e _ _ ((O.of_fz z).mp h).2
/-! ### values for good: frozen -/
def val (env : Env) : D → Option D
  | .rf i => match env[i]? with
    | some (some d) => if d.fz = true then some d else none
    | _ => none
  | d => some d.frz
theorem val_rf {i : Nat} {e : D} (h : val env (.rf i) = some e) : env[i]? = some (some e) ∧ e.fz = true := by
  simp only [val] at h
  split at h
  · split at h
    · cases h; constructor <;> assumption
    · cases h
  · cases h
/-- G takes in the footprint -/
theorem Tm.val (e : Sub G H) (sl : Sl S.K G H env σ W) {x : D} (h : Tm S.K G H σ d v w) (q : Mx.val env d = some x) : F S.K (addG G H w) x v := by
  cases d with
  | rf i =>
    obtain ⟨q1, q2⟩ := val_rf q
    obtain ⟨v', w', e1, _, o⟩ := sl.get q1
    have z : σ[i]? = some (some v) := h.2
    rw [z] at e1
    cases e1
    exact F.mono (addG_sub e) _ _ ((O.of_fz q2).mp o).2
  | _ => cases q; exact O.frz e _ _ _ h
/-- so many temporaries are taken off and frozen -/
theorem RR.frzTop (R : RR S G (d :: td) (v :: tv) tw env σ W H) {x : D} (q : val env d = some x) : ∃ G' tw', RR S G' td tv tw' env σ W H ∧ Sub G G' ∧ F S.K G' x v := by
  have h := R.tl
  simp only [Tl] at h
  obtain ⟨v', us, w, xs, e1, rfl, h1, h2⟩ := h
  cases e1
  obtain ⟨w', tw', e2, R1⟩ := R.pop
  cases e2
  have hn := R.nd
  simp only [List.flatten_cons, List.append_assoc] at hn
  obtain ⟨_, _, dj⟩ := List.nodup_append.mp hn
  have inl : ∀ a ∈ w, a ∈ (w :: xs).flatten ++ W.flatten := fun a ha => by
    simp only [List.flatten_cons, List.append_assoc]
    exact List.mem_append_left _ ha
  refine ⟨addG G H w, xs, R1.step (addG_sub R.sub) (addG_le R.sub) (fun a ha => ⟨?_, rfl⟩) (fun a o h => .inl h) (fun a h => h) (fun a h => ?_), addG_sub R.sub, h1.val R.sub R.sl q⟩
  · rw [addG_out fun z => dj a z a ha rfl]
    exact (R1.fp a ha).1
  · by_cases z : a ∈ w
    · exact .inr (R.own a (inl a z))
    · rw [addG_out z] at h
      exact .inl h
def vals (env : Env) : List D → Option (List D)
  | [] => some []
  | d :: ds => match val env d with
    | none => none
    | some x => match vals env ds with
      | none => none
      | some xs => some (x :: xs)
theorem vals_cons {ds : List D} {xs : List D} (h : vals env (d :: ds) = some xs) : ∃ x ys, xs = x :: ys ∧ val env d = some x ∧ vals env ds = some ys := by
  simp only [vals] at h
  split at h
  · cases h
  · split at h
    · cases h
    · cases h
      exact ⟨_, _, rfl, by assumption, by assumption⟩
theorem vals_snoc : ∀ {ds : List D} {xs : List D}, vals env (ds ++ [d]) = some xs → ∃ ys x, xs = ys ++ [x] ∧ vals env ds = some ys ∧ val env d = some x
  | [], xs, h => by
    obtain ⟨x, ys, rfl, h1, h2⟩ := vals_cons h
    cases h2
    exact ⟨[], x, rfl, rfl, h1⟩
  | e :: ds, xs, h => by
    obtain ⟨x, ys, rfl, h1, h2⟩ := vals_cons h
    obtain ⟨zs, y, rfl, h3, h4⟩ := vals_snoc h2
    exact ⟨x :: zs, y, rfl, by simp [vals, h1, h3], h4⟩
/-- all arguments, evaluated from the left, are taken off and frozen -/
theorem RR.frzAll : ∀ {ds : List D} {xs : List D} {vs : List V} {G : Hp} {tw : List (List Addr)}, RR S G (ds.reverse ++ td) (vs.reverse ++ tv) tw env σ W H → vs.length = ds.length → vals env ds = some xs →
    ∃ G' tw', RR S G' td tv tw' env σ W H ∧ Sub G G' ∧ FL S.K G' xs vs := by
  intro ds
  -- from the right
  generalize hn : ds.length = n
  induction n generalizing ds with
  | zero =>
    intro xs vs G tw R hl q
    have e1 : ds = [] := List.eq_nil_of_length_eq_zero hn
    have e2 : vs = [] := List.eq_nil_of_length_eq_zero hl
    subst e1 e2
    cases q
    exact ⟨G, tw, R, Sub.refl G, by simp [FL]⟩
  | succ n ih =>
    intro xs vs G tw R hl q
    have e1 : ds = ds.dropLast ++ [ds.getLast (by intro z; rw [z] at hn; simp at hn)] := (List.dropLast_concat_getLast _).symm
    have e2 : vs = vs.dropLast ++ [vs.getLast (by intro z; rw [z] at hl; simp at hl)] := (List.dropLast_concat_getLast _).symm
    rw [e1] at q
    obtain ⟨ys, x, rfl, q1, q2⟩ := vals_snoc q
    rw [e1, e2, List.reverse_append, List.reverse_append] at R
    obtain ⟨G1, tw1, R1, s1, f1⟩ := RR.frzTop (td := ds.dropLast.reverse ++ td) (tv := vs.dropLast.reverse ++ tv) R q2
    obtain ⟨G2, tw2, R2, s2, f2⟩ := ih (ds := ds.dropLast) (by rw [List.length_dropLast, hn]; rfl) R1 (by rw [List.length_dropLast, hl]; rfl) q1
    refine ⟨G2, tw2, R2, s1.trans s2, ?_⟩
    rw [e2]
    exact f2.append (by simp only [FL]; exact ⟨_, [], rfl, F.mono s2 _ _ f1, rfl⟩)
/-! ### new objects -/
theorem RR.newF (R : RR S G td tv tw env σ W H) {p : Addr} {o : HO} (h : H p = none) : RR S (upd G p o) td tv tw env σ W (upd H p o) :=
  R.growG (Ext.new h) (Sub.new (R.sub.none h)) (fun a u e => by
    by_cases z : a = p
    · subst z; rw [upd_same] at e ⊢; exact .inl e
    · rw [upd_ne z] at e ⊢; exact R.sub a u e) fun a e => by
    by_cases z : a = p
    · subst z; exact .inr h
    · rw [upd_ne z] at e; exact .inl e
/-- a new tuple of frozen items -/
theorem RR.newTup (R : RR S G td tv tw env σ W H) {p : Addr} {ds : List D} {vs : List V} (h : H p = none) (f : FL S.K G ds vs) : RR S (upd G p (.tup vs)) (.tup ds :: td) (.ref p :: tv) ([] :: tw) env σ W (upd H p (.tup vs)) :=
  (R.newF h).push (by
    simp only [F]
    exact ⟨p, vs, rfl, .inl (.inl upd_same), FL.mono (Sub.new (R.sub.none h)) _ _ f⟩)
/-- a new object that the top owns; its parts are frozen -/
theorem RR.newO (R : RR S G td tv tw env σ W H) {p : Addr} {o : HO} (h : H p = none) (q : O S.K G (upd H p o) d (.ref p) [p]) : RR S G (d :: td) (.ref p :: tv) ([p] :: tw) env σ W (upd H p o) := by
  have R1 := R.grow (H' := upd H p o) (Ext.new h)
  have np := R.notin h
  refine ⟨?_, R1.sl, ?_, fun a ha => ?_, fun a ha => ?_, R1.sub, R1.base, R1.frame, R1.dom, R1.gdom, R1.gx⟩
  · simp only [Tl]
    exact ⟨_, tv, [p], tw, rfl, rfl, Tm.of_O q, R1.tl⟩
  · simp only [List.flatten_cons, List.append_assoc]
    exact List.nodup_cons.mpr ⟨np, R.nd⟩
  · simp only [List.flatten_cons, List.append_assoc] at ha
    rcases List.mem_cons.mp ha with rfl | ha
    · exact .inl (R.fresh h)
    · exact R.own a ha
  · simp only [List.flatten_cons, List.append_assoc] at ha
    rcases List.mem_cons.mp ha with rfl | ha
    · exact ⟨R.sub.none h, by rw [upd_same]; exact fun z => nomatch z⟩
    · exact R1.fp a ha
theorem RR.newLst (R : RR S G td tv tw env σ W H) {p : Addr} {ds : List D} {vs : List V} (h : H p = none) (f : FL S.K G ds vs) : RR S G (.own ds :: td) (.ref p :: tv) ([p] :: tw) env σ W (upd H p (.lst vs)) :=
  R.newO h (by
    simp only [O]
    exact ⟨p, vs, [], rfl, rfl, upd_same, R.sub.none h, OL.of_FL f⟩)
/-! ### slots -/
theorem RR.kill (R : RR S G td tv tw env σ W H) (i : Nat) (x : Option (Option V)) (hx : ∀ y, x = some y → D.rf i ∉ td) : RR S G td tv tw (env.set i none) (setO σ i x) (W.set i []) H := by
  have sb : ∀ a, a ∈ tw.flatten ++ (W.set i []).flatten → a ∈ tw.flatten ++ W.flatten := fun a ha => by
    rcases List.mem_append.mp ha with z | z
    · exact List.mem_append_left _ z
    · exact List.mem_append_right _ (flat_none W i a z)
  refine ⟨?_, R.sl.kill x, ?_, fun a ha => R.own a (sb a ha), fun a ha => R.fp a (sb a ha), R.sub, R.base, R.frame, R.dom, R.gdom, R.gx⟩
  · refine R.tl.slots fun j hj => ?_
    cases x with
    | none => rfl
    | some y =>
      have : i ≠ j := fun z => hx y rfl (by rw [z]; exact hj)
      simp [setO, List.getElem?_set_ne this]
  · by_cases h : i < W.length
    · have q := flat_out (W := W) (i := i) (w := W[i]) (by simp [h])
      have q2 := (q.append_left tw.flatten).nodup_iff.mp R.nd
      rw [← List.append_assoc] at q2
      refine List.Nodup.sublist ?_ q2
      exact List.Sublist.append_right (List.sublist_append_left _ _) _
    · rw [List.set_eq_of_length_le (by omega)]
      exact R.nd
/-- the top goes into slot i -/
theorem RR.store (R : RR S G (d :: td) (v :: tv) tw env σ W H) {i : Nat} (hi : i < env.length) (hd : ∀ j, d ≠ .rf j) (ht : D.rf i ∉ td) : ∃ tw' W', RR S G td tv tw' (env.set i (some d)) (σ.set i (some v)) W' H := by
  have h := R.tl
  simp only [Tl] at h
  obtain ⟨v', us, w, xs, e1, rfl, h1, h2⟩ := h
  cases e1
  have o : O S.K G H d v w := by cases d <;> first | exact h1 | exact absurd rfl (hd _)
  have hW : i < W.length := by rw [← R.sl.len.2]; exact hi
  have hp := flat_set (W := W) (i := i) (w := w) hW
  have pm : ((w :: xs).flatten ++ (W.set i []).flatten).Perm (xs.flatten ++ (W.set i w).flatten) := by
    simp only [List.flatten_cons, List.append_assoc]
    refine List.Perm.trans ?_ (hp.append_left xs.flatten).symm
    rw [← List.append_assoc, ← List.append_assoc]
    exact List.perm_append_comm.append_right _
  have Rk := R.kill i none (fun y z => by cases z)
  have sb : ∀ a, a ∈ xs.flatten ++ (W.set i w).flatten → a ∈ (w :: xs).flatten ++ (W.set i []).flatten := fun a ha => pm.mem_iff.mpr ha
  refine ⟨xs, W.set i w, h2.slots fun j hj => ?_, R.sl.set o hi, pm.nodup_iff.mp Rk.nd, fun a ha => Rk.own a (sb a ha), fun a ha => Rk.fp a (sb a ha), R.sub, R.base, R.frame, R.dom, R.gdom, R.gx⟩
  have : i ≠ j := fun z => ht (by rw [z]; exact hj)
  simp [List.getElem?_set_ne this]
/-- slot i's value is taken out, to the top -/
theorem RR.take (R : RR S G td tv tw env σ W H) {i : Nat} (q : env[i]? = some (some d)) : ∃ v w, σ[i]? = some (some v) ∧ RR S G (d :: td) (v :: tv) (w :: tw) (env.set i none) σ (W.set i []) H := by
  obtain ⟨v, w, h1, h2, o⟩ := R.sl.get q
  have hp := flat_out h2
  have pm : (tw.flatten ++ W.flatten).Perm ((w :: tw).flatten ++ (W.set i []).flatten) := by
    simp only [List.flatten_cons, List.append_assoc]
    refine (hp.append_left tw.flatten).trans ?_
    rw [← List.append_assoc, ← List.append_assoc]
    exact List.perm_append_comm.append_right _
  have Rk := R.kill i none (fun y z => by cases z)
  have sb : ∀ a, a ∈ (w :: tw).flatten ++ (W.set i []).flatten → a ∈ tw.flatten ++ W.flatten := fun a ha => pm.mem_iff.mpr ha
  refine ⟨v, w, h1, ?_, Rk.sl, pm.nodup_iff.mp R.nd, fun a ha => R.own a (sb a ha), fun a ha => R.fp a (sb a ha), R.sub, R.base, R.frame, R.dom, R.gdom, R.gx⟩
  simp only [Tl]
  exact ⟨v, tv, w, tw, rfl, rfl, Tm.of_O o, R.tl⟩
/-- .. and put back (its place as it was) -/
theorem RR.back (R : RR S G (d :: td) (v :: tv) (w :: tw) env σ W H) {i : Nat} (q : env[i]? = some none) (h : σ[i]? = some (some v)) (hd : ∀ j, d ≠ .rf j) : RR S G td tv tw (env.set i (some d)) σ (W.set i w) H := by
  have hi : i < env.length := by
    rw [List.getElem?_eq_some_iff] at q
    exact q.1
  have h0 := R.tl
  simp only [Tl] at h0
  obtain ⟨v', us, w', xs, e1, e2, h1, h2⟩ := h0
  cases e1
  cases e2
  have o : O S.K G H d v w := by cases d <;> first | exact h1 | exact absurd rfl (hd _)
  have hW : i < W.length := by rw [← R.sl.len.2]; exact hi
  have hp := flat_set (W := W) (i := i) (w := w) hW
  have pm : ((w :: tw).flatten ++ (W.set i []).flatten).Perm (tw.flatten ++ (W.set i w).flatten) := by
    simp only [List.flatten_cons, List.append_assoc]
    refine List.Perm.trans ?_ (hp.append_left tw.flatten).symm
    rw [← List.append_assoc, ← List.append_assoc]
    exact List.perm_append_comm.append_right _
  have Rk := R.kill i none (fun y z => by cases z)
  have sb : ∀ a, a ∈ tw.flatten ++ (W.set i w).flatten → a ∈ (w :: tw).flatten ++ (W.set i []).flatten := fun a ha => pm.mem_iff.mpr ha
  have hs : σ.set i (some v) = σ := by
    apply List.ext_getElem?
    intro j
    by_cases z : i = j
    · subst z
      have l : i < σ.length := by rw [← R.sl.len.1]; exact hi
      rw [List.getElem?_set_self l, h]
    · rw [List.getElem?_set_ne z]
  have sl := R.sl.set (i := i) o hi
  rw [hs] at sl
  exact ⟨h2, sl, pm.nodup_iff.mp Rk.nd, fun a ha => Rk.own a (sb a ha), fun a ha => Rk.fp a (sb a ha), R.sub, R.base, R.frame, R.dom, R.gdom, R.gx⟩
/-- the top owns p; p is changed, the parts anew are what was there before, and frozen ones -/
theorem RR.change (R : RR S G (d :: td) (v :: tv) (w :: tw) env σ W H) {p : Addr} {o : HO} {d' : D} (hp : p ∈ w) (q : O S.K G (upd H p o) d' v w) : RR S G (d' :: td) (v :: tv) (w :: tw) env σ W (upd H p o) := by
  obtain ⟨w', tw', e2, R1⟩ := R.pop
  cases e2
  have hn := R.nd
  simp only [List.flatten_cons, List.append_assoc] at hn
  obtain ⟨_, _, dj⟩ := List.nodup_append.mp hn
  have inl : p ∈ (w :: tw).flatten ++ W.flatten := by
    simp only [List.flatten_cons, List.append_assoc]
    exact List.mem_append_left _ hp
  have pf := R.fp p inl
  have R2 := R1.step (G' := G) (H' := upd H p o) (Sub.refl G) (fun a u e => by
    have : a ≠ p := fun z => by rw [z, pf.1] at e; cases e
    rw [upd_ne this]; exact R.sub a u e) (fun a ha => ⟨(R1.fp a ha).1, upd_ne fun z => dj p hp a ha z.symm⟩) (fun a u e => by
      by_cases z : a = p
      · subst z; exact .inr (R.own a inl)
      · exact .inl (by rw [upd_ne z]; exact e)) (fun a e => by
      by_cases z : a = p
      · subst z; rw [upd_same]; exact fun z => nomatch z
      · rw [upd_ne z]; exact e) fun a e => .inl e
  refine ⟨?_, R2.sl, R.nd, R.own, fun a ha => ?_, R2.sub, R2.base, R2.frame, R2.dom, R2.gdom, R2.gx⟩
  · simp only [Tl]
    exact ⟨v, tv, w, tw, rfl, rfl, Tm.of_O q, R2.tl⟩
  · refine ⟨(R.fp a ha).1, ?_⟩
    by_cases z : a = p
    · subst z; rw [upd_same]; exact fun z => nomatch z
    · rw [upd_ne z]; exact (R.fp a ha).2
/-- the two tops change places -/
theorem RR.swap {e : D} {u : V} {y : List Addr} (R : RR S G (d :: e :: td) (v :: u :: tv) (w :: y :: tw) env σ W H) : RR S G (e :: d :: td) (u :: v :: tv) (y :: w :: tw) env σ W H := by
  have h0 := R.tl
  simp only [Tl] at h0
  obtain ⟨v', us, w', xs, e1, e2, h1, v2, us2, w2, xs2, e3, e4, h3, h4⟩ := h0
  cases e1; cases e2; cases e3; cases e4
  have pm : ((w :: y :: tw).flatten ++ W.flatten).Perm ((y :: w :: tw).flatten ++ W.flatten) := by
    simp only [List.flatten_cons]
    rw [← List.append_assoc, ← List.append_assoc]
    exact (List.perm_append_comm.append_right _).append_right _
  refine ⟨?_, R.sl, pm.nodup_iff.mp R.nd, fun a ha => R.own a (pm.mem_iff.mpr ha), fun a ha => R.fp a (pm.mem_iff.mpr ha), R.sub, R.base, R.frame, R.dom, R.gdom, R.gx⟩
  simp only [Tl]
  exact ⟨u, _, y, _, rfl, rfl, h3, v, tv, w, tw, rfl, rfl, h1, h4⟩
/-- the third comes up -/
theorem RR.third {d1 d2 d3 : D} {v1 v2 v3 : V} (R : RR S G (d1 :: d2 :: d3 :: td) (v1 :: v2 :: v3 :: tv) tw env σ W H) : ∃ tw', RR S G (d3 :: d1 :: d2 :: td) (v3 :: v1 :: v2 :: tv) tw' env σ W H := by
  have h0 := R.tl
  simp only [Tl] at h0
  obtain ⟨_, _, w1, _, e1, e2, h1, _, _, w2, _, e3, e4, h2, _, _, w3, xs, e5, e6, h3, h4⟩ := h0
  cases e1; cases e3; cases e5
  subst e6; subst e4; subst e2
  have pm : ((w1 :: w2 :: w3 :: xs).flatten ++ W.flatten).Perm ((w3 :: w1 :: w2 :: xs).flatten ++ W.flatten) := by
    simp only [List.flatten_cons]
    refine List.Perm.append_right _ ?_
    rw [← List.append_assoc, ← List.append_assoc, ← List.append_assoc w3, ← List.append_assoc]
    refine List.Perm.append_right _ ?_
    refine List.perm_append_comm.trans ?_
    rw [List.append_assoc]
  refine ⟨w3 :: w1 :: w2 :: xs, ?_, R.sl, pm.nodup_iff.mp R.nd, fun a ha => R.own a (pm.mem_iff.mpr ha), fun a ha => R.fp a (pm.mem_iff.mpr ha), R.sub, R.base, R.frame, R.dom, R.gdom, R.gx⟩
  simp only [Tl]
  exact ⟨v3, _, w3, _, rfl, rfl, h3, v1, _, w1, _, rfl, rfl, h1, v2, tv, w2, xs, rfl, rfl, h2, h4⟩
/-- slot i is frozen -/
theorem RR.frzSlot (R : RR S G td tv tw env σ W H) {i : Nat} (q : env[i]? = some (some d)) : ∃ G' W', RR S G' td tv tw (env.set i (some d.frz)) σ W' H ∧ Sub G G' := by
  obtain ⟨v, w, h1, R1⟩ := R.take q
  obtain ⟨v2, w2, h3, h2, o⟩ := R.sl.get q
  have hi : i < env.length := (List.getElem?_eq_some_iff.mp q).1
  have hv : val (env.set i none) d = some d.frz := by
    cases d <;> first | rfl | (simp only [O] at o)
  have hh := R1.tl
  simp only [Tl] at hh
  obtain ⟨v', us, w', xs, e1, e2, h5, h6⟩ := hh
  cases e1; cases e2
  obtain ⟨w3, tw3, e3, Rp⟩ := R1.pop
  cases e3
  have hn := R1.nd
  simp only [List.flatten_cons, List.append_assoc] at hn
  obtain ⟨_, _, dj⟩ := List.nodup_append.mp hn
  have inl : ∀ a ∈ w, a ∈ (w :: tw).flatten ++ (W.set i []).flatten := fun a ha => by
    simp only [List.flatten_cons, List.append_assoc]
    exact List.mem_append_left _ ha
  have R2 : RR S (addG G H w) td tv tw (env.set i none) σ (W.set i []) H := Rp.step (addG_sub R.sub) (addG_le R.sub) (fun a ha => ⟨by
      rw [addG_out fun z => dj a z a ha rfl]
      exact (Rp.fp a ha).1, rfl⟩) (fun a o h => .inl h) (fun a h => h) (fun a h => by
      by_cases z : a ∈ w
      · exact .inr (R1.own a (inl a z))
      · rw [addG_out z] at h
        exact .inl h)
  have f : F S.K (addG G H w) d.frz v := h5.val R.sub R1.sl hv
  have R3 := (R2.push f).back (i := i) (by rw [List.getElem?_set_self hi]) h1 (fun j z => by rw [z] at f; simp only [F] at f)
  rw [List.set_set] at R3
  exact ⟨_, _, R3, addG_sub R.sub⟩
end
end Mx
set_option Elab.async false
set_option linter.all false
set_option maxRecDepth 100000
set_option maxHeartbeats 1000000
/-! Mx3: expressions: what a mirror m promises (tM), operators, displays -/
namespace Mx
open PySem L2 PyProof.Rows
/-- the frame of a text in X -/
abbrev ct (X : Cx) (xd : Option Addr) (xn : Option Xn) : Ct := ⟨X.K, xd, xn⟩
/-- what comes of a piece of text: a value and the slots behind; an exception; or nothing is known -/
inductive Re (α : Type) where
  | ok (a : α) (e : Env)
  | ex (x : Xn) (e : Env)
  | bad
/-- an exception as it lies -/
def XR (K : PySem.W.Frag) (G : Hp) (x : Xn) (cls : Value) (od : Option Addr) : Prop := cls = .ref (He.ga K x.c) ∧ ∃ dd, od = some dd ∧ XD K G x dd
/-- what is wanted of an exception -/
def PostX (S : Sc) (td : List D) (tv : List V) (σ : L2.St) (x : Xn) (e : Env) (wx : WX) : Prop :=
  ∀ cls od tw' G' W' H', RR S G' td tv tw' e σ W' H' → XR S.K G' x cls od → wx cls od σ H'
abbrev EM := Env → Re D
def PostE (S : Sc) (td : List D) (tv : List V) (σ : L2.St) (Q : VK) (wx : WX) : Re D → Prop
  | .ok d e => ∀ v tw' G' W' H', RR S G' (d :: td) (v :: tv) tw' e σ W' H' → Q v H'
  | .ex x e => PostX S td tv σ x e wx
  | .bad => False
/-- the reading of an expression by its mirror -/
def tM (C : Ct) (wx : WX) (m : EM) : TE := fun σ H Q => ∃ (S : Sc) (G : Hp) (td : List D) (tv : List V) (tw : List (List Addr)) (env : Env) (W : List (List Addr)),
  S.C = C ∧ RR S G td tv tw env σ W H ∧ PostE S td tv σ Q wx (m env)
abbrev BM := Env → Re Bool
def PostB (S : Sc) (td : List D) (tv : List V) (σ : L2.St) (Q : Bool → Hp → Prop) (wx : WX) : Re Bool → Prop
  | .ok b e => ∀ tw' G' W' H', RR S G' td tv tw' e σ W' H' → Q b H'
  | .ex x e => PostX S td tv σ x e wx
  | .bad => False
def tMB (C : Ct) (wx : WX) (m : BM) : TT := fun σ H Q => ∃ (S : Sc) (G : Hp) (td : List D) (tv : List V) (tw : List (List Addr)) (env : Env) (W : List (List Addr)),
  S.C = C ∧ RR S G td tv tw env σ W H ∧ PostB S td tv σ Q wx (m env)
abbrev AM := Env → Re (List D)
/-- arguments: all of them on top, the last one first -/
def PostA (S : Sc) (td : List D) (tv : List V) (σ : L2.St) (Q : List V → Hp → Prop) (wx : WX) : Re (List D) → Prop
  | .ok ds e => ∀ vs tw' G' W' H', vs.length = ds.length → RR S G' (ds.reverse ++ td) (vs.reverse ++ tv) tw' e σ W' H' → Q vs H'
  | .ex x e => PostX S td tv σ x e wx
  | .bad => False
def tMA (C : Ct) (wx : WX) (m : AM) : TA := fun σ H Q => ∃ (S : Sc) (G : Hp) (td : List D) (tv : List V) (tw : List (List Addr)) (env : Env) (W : List (List Addr)),
  S.C = C ∧ RR S G td tv tw env σ W H ∧ PostA S td tv σ Q wx (m env)
theorem PEimp {X : Cx} {e : Expr} {t t' : TE} (h : PE X e t) (i : ∀ σ H Q, t' σ H Q → t σ H Q) : PE X e t' := ⟨fun pins s σ H Q I q => h.run pins s σ H Q I (i σ H Q q)⟩
theorem PTimp {X : Cx} {e : Expr} {t t' : TT} (h : PT X e t) (i : ∀ σ H Q, t' σ H Q → t σ H Q) : PT X e t' := ⟨fun pins s σ H Q I q => h.run pins s σ H Q I (i σ H Q q)⟩
theorem PWimp {X : Cx} {e : Expr} {t t' : TT} (h : PW X e t) (i : ∀ σ H Q, t' σ H Q → t σ H Q) : PW X e t' := ⟨fun wh pins s σ H Q I q => h.run wh pins s σ H Q I (i σ H Q q)⟩
theorem PAimp {X : Cx} {es : List Expr} {t t' : TA} (h : PA X es t) (i : ∀ σ H Q, t' σ H Q → t σ H Q) : PA X es t' := ⟨fun pos pins s σ H Q I q => h.run pos pins s σ H Q I (i σ H Q q)⟩
theorem PCimp {X : Cx} {a b : Expr} {op : CmpOp} {t t' : TE} (h : PC X op a b t) (i : ∀ σ H Q, t' σ H Q → t σ H Q) : PC X op a b t' := ⟨fun pins s σ H Q I q => h.run pins s σ H Q I (i σ H Q q)⟩
theorem PSimp {X : Cx} {st : Stmt} {t t' : TS} (h : PS X st t) (i : ∀ D σ H, t' D σ H → t D σ H) : PS X st t' := ⟨fun pins s σ H D I q => h.run pins s σ H D I (i D σ H q)⟩
theorem PSsimp {X : Cx} {st : List Stmt} {t t' : TS} (h : PSs X st t) (i : ∀ D σ H, t' D σ H → t D σ H) : PSs X st t' := ⟨fun pins s σ H D I q => h.run pins s σ H D I (i D σ H q)⟩
theorem PostX.pop {S : Sc} {td : List D} {tv : List V} {σ : L2.St} {x : Xn} {e : Env} {wx : WX} {d : D} {v : V} (h : PostX S td tv σ x e wx) : PostX S (d :: td) (v :: tv) σ x e wx := fun cls od tw' G' W' H' R xr => by
  obtain ⟨_, tw2, _, R2⟩ := R.pop
  exact h cls od tw2 G' W' H' R2 xr
/-! ### mirrors -/
def bindR {α β : Type} (r : Re α) (k : α → Env → Re β) : Re β := match r with
  | .ok a e => k a e
  | .ex x e => .ex x e
  | .bad => .bad
def varM (i : Nat) : EM := fun env => match env[i]? with
  | some (some _) => .ok (.rf i) env
  | _ => .bad
/-- the slot's value itself, the slot is left empty -/
def movM (i : Nat) : EM := fun env => match env[i]? with
  | some (some d) => .ok d (env.set i none)
  | _ => .bad
def cstM (d : D) : EM := fun env => .ok d env
def re {α : Type} (e : Env) : Option α → Re α
  | some a => .ok a e
  | none => .bad
def op2 (f : D → D → Option D) (x y : D) (e : Env) : Re D := match deref e x with
  | none => .bad
  | some x' => match deref e y with
    | none => .bad
    | some y' => re e (f x' y')
def op1 (f : D → Option D) (x : D) (e : Env) : Re D := match deref e x with
  | none => .bad
  | some x' => re e (f x')
def opM (f : D → D → Option D) (a b : EM) : EM := fun env => bindR (a env) fun x e1 => bindR (b e1) fun y e2 => op2 f x y e2
def unM (f : D → Option D) (a : EM) : EM := fun env => bindR (a env) fun x e1 => op1 f x e1
def nilM : AM := fun env => .ok [] env
def consM (a : EM) (r : AM) : AM := fun env => bindR (a env) fun x e1 => bindR (r e1) fun xs e2 => .ok (x :: xs) e2
/-- frozen items, a thousand at most -/
def items (k : List D → D) (ds : List D) (e : Env) : Re D := match vals e ds with
  | none => .bad
  | some xs => if xs.length ≤ 1000 then .ok (k xs) e else .bad
/-- a new tuple of frozen items -/
def tupM (a : AM) : EM := fun env => bindR (a env) fun ds e => items .tup ds e
/-- a new list of frozen items -/
def lstM (a : AM) : EM := fun env => bindR (a env) fun ds e => items .own ds e
section
variable {X : Cx} {C : Ct} {wx : WX} {a b : Expr} {ma mb : EM} {pos : Pos}
/-- behind a part: its result, or what it raises -/
theorem bindE {α : Type} {S : Sc} {td : List D} {tv : List V} {σ : L2.St} {Q : VK} {r : Re α} {k : α → Env → Re D} (h : PostE S td tv σ Q wx (bindR r k)) :
    (∃ a e, r = .ok a e ∧ PostE S td tv σ Q wx (k a e)) ∨ ∃ x e, r = .ex x e ∧ PostX S td tv σ x e wx := by
  cases r with
  | ok a e => exact .inl ⟨a, e, rfl, h⟩
  | ex x e => exact .inr ⟨x, e, rfl, h⟩
  | bad => exact h.elim
theorem tM_mk {S : Sc} {G : Hp} {td : List D} {tv : List V} {tw : List (List Addr)} {env : Env} {σ : L2.St} {W : List (List Addr)} {H : Hp} {Q : VK} {m : EM} (hC : S.C = C) (R : RR S G td tv tw env σ W H)
    (h : (∃ d e, m env = .ok d e ∧ ∀ v tw' G' W' H', RR S G' (d :: td) (v :: tv) tw' e σ W' H' → Q v H') ∨ ∃ x e, m env = .ex x e ∧ PostX S td tv σ x e wx) : tM C wx m σ H Q := by
  refine ⟨S, G, td, tv, tw, env, W, hC, R, ?_⟩
  rcases h with ⟨d, e, h, q⟩ | ⟨x, e, h, q⟩ <;> (rw [h]; exact q)
theorem me_var {i : Nat} {x : Str} (hN : X.N[i]? = some x) (hv : Vis X.env.scope x) (hd : (x == ("__debug__" : Str)) = false := by decide) (hcd : (x == ("__classdict__" : Str)) = false := by decide) : PE X (.Name x pos) (tM C wx (varM i)) :=
  PEimp (pe_var hN hv hd hcd) fun σ H Q h => by
    obtain ⟨S, G, td, tv, tw, env, W, hC, R, q⟩ := h
    unfold varM at q
    split at q
    · obtain ⟨v, w, h1, _, _⟩ := R.sl.get (by assumption)
      exact ⟨v, h1, q _ _ _ _ _ (R.pushR h1)⟩
    · exact q.elim
theorem me_mov {i : Nat} {x : Str} (hN : X.N[i]? = some x) (hv : Vis X.env.scope x) (hd : (x == ("__debug__" : Str)) = false := by decide) (hcd : (x == ("__classdict__" : Str)) = false := by decide) : PE X (.Name x pos) (tM C wx (movM i)) :=
  PEimp (pe_var hN hv hd hcd) fun σ H Q h => by
    obtain ⟨S, G, td, tv, tw, env, W, hC, R, q⟩ := h
    unfold movM at q
    split at q
    · obtain ⟨v, w, h1, R1⟩ := R.take (by assumption)
      exact ⟨v, h1, q _ _ _ _ _ R1⟩
    · exact q.elim
/-- a value that is known -/
theorem me_c {e : Expr} {d : D} {v : V} (h : PE X e (tC v)) (f : ∀ G, F C.K G d v) : PE X e (tM C wx (cstM d)) :=
  PEimp h fun σ H Q h => by
    obtain ⟨S, G, td, tv, tw, env, W, hC, R, q⟩ := h
    exact q _ _ _ _ _ (R.push (show F S.C.K G d v from hC ▸ f G))
theorem me_int {i j} : PE X (.Constant (.int i) j pos) (tM C wx (cstM (.int i))) := me_c pe_int fun _ => by simp only [F]
theorem me_str {x j} : PE X (.Constant (.str x) j pos) (tM C wx (cstM (.str x))) := me_c pe_str fun _ => by simp only [F]
theorem me_bl {b j} : PE X (.Constant (.bool b) j pos) (tM C wx (cstM (.bl b))) := me_c pe_bl fun _ => by simp only [F]
theorem me_non {j} : PE X (.Constant .none j pos) (tM C wx (cstM .non)) := me_c pe_non fun _ => by simp only [F]
theorem me_gint {x : Str} {i : Int} (hg : Gl X x) (hm : ∃ t, X.mg x = some (.int i t)) (hd : (x == ("__debug__" : Str)) = false := by decide) : PE X (.Name x pos) (tM C wx (cstM (.int i))) := by
  obtain ⟨t, h⟩ := hm
  exact me_c (pe_glob (v := .int i) hg h ⟨t, rfl⟩ hd) fun _ => by simp only [F]
theorem me_gstr {x : Str} {i : Str} (hg : Gl X x) (hm : ∃ t, X.mg x = some (.str i t)) (hd : (x == ("__debug__" : Str)) = false := by decide) : PE X (.Name x pos) (tM C wx (cstM (.str i))) := by
  obtain ⟨t, h⟩ := hm
  exact me_c (pe_glob (v := .str i) hg h ⟨t, rfl⟩ hd) fun _ => by simp only [F]
/-- what an operation on values does: r is HandS's reading, f the mirror's function; the operands as they lie -/
def Op2 (K : PySem.W.Frag) (r : R2) (f : D → D → Option D) : Prop := ∀ (S : Sc) (G : Hp) (td : List D) (tv : List V) (tw : List (List Addr)) (env : Env) (σ : L2.St) (W : List (List Addr)) (H : Hp) (x y z : D) (v u : V) (w1 w2 : List Addr) (Q : VK),
  S.K = K → RR S G td tv tw env σ W H → O K G H x v w1 → O K G H y u w2 → f x y = some z →
    (∀ (v' : V) (tw' : List (List Addr)) (G' : Hp) (H' : Hp), RR S G' (z :: td) (v' :: tv) tw' env σ W H' → Q v' H') → r v u H Q
def Op1 (K : PySem.W.Frag) (r : V → Hp → VK → Prop) (f : D → Option D) : Prop := ∀ (S : Sc) (G : Hp) (td : List D) (tv : List V) (tw : List (List Addr)) (env : Env) (σ : L2.St) (W : List (List Addr)) (H : Hp) (x z : D) (v : V) (w1 : List Addr) (Q : VK),
  S.K = K → RR S G td tv tw env σ W H → O K G H x v w1 → f x = some z →
    (∀ (v' : V) (tw' : List (List Addr)) (G' : Hp) (H' : Hp), RR S G' (z :: td) (v' :: tv) tw' env σ W H' → Q v' H') → r v H Q
theorem op2_ok {S : Sc} {td : List D} {tv : List V} {σ : L2.St} {Q : VK} {f : D → D → Option D} {x y : D} {e : Env} (h : PostE S td tv σ Q wx (op2 f x y e)) :
    ∃ x' y' z, deref e x = some x' ∧ deref e y = some y' ∧ f x' y' = some z ∧ ∀ v tw' G' W' H', RR S G' (z :: td) (v :: tv) tw' e σ W' H' → Q v H' := by
  unfold op2 at h
  split at h
  · exact h.elim
  · split at h
    · exact h.elim
    · rename_i x' h1 _ y' h2
      cases hf : f x' y' with
      | none => rw [hf] at h; exact h.elim
      | some z => rw [hf] at h; exact ⟨x', y', z, h1, h2, hf, h⟩
theorem op1_ok {S : Sc} {td : List D} {tv : List V} {σ : L2.St} {Q : VK} {f : D → Option D} {x : D} {e : Env} (h : PostE S td tv σ Q wx (op1 f x e)) :
    ∃ x' z, deref e x = some x' ∧ f x' = some z ∧ ∀ v tw' G' W' H', RR S G' (z :: td) (v :: tv) tw' e σ W' H' → Q v H' := by
  unfold op1 at h
  split at h
  · exact h.elim
  · rename_i x' h1
    cases hf : f x' with
    | none => rw [hf] at h; exact h.elim
    | some z => rw [hf] at h; exact ⟨x', z, h1, hf, h⟩
theorem tM_op {r : R2} {f : D → D → Option D} (h2 : Op2 C.K r f) {σ : L2.St} {H : Hp} {Q : VK} (h : tM C wx (opM f ma mb) σ H Q) : tOp r (tM C wx ma) (tM C wx mb) σ H Q := by
  obtain ⟨S, G, td, tv, tw, env, W, hC, R, q⟩ := h
  rcases bindE q with ⟨x, e1, m1, q⟩ | ⟨x, e1, m1, q⟩
  · refine tM_mk hC R (.inl ⟨x, e1, m1, fun v1 tw1 G1 W1 H1 R1 => ?_⟩)
    rcases bindE q with ⟨y, e2, m2, q⟩ | ⟨y, e2, m2, q⟩
    · refine tM_mk hC R1 (.inl ⟨y, e2, m2, fun v2 tw2 G2 W2 H2 R2 => ?_⟩)
      obtain ⟨x', y', z, d1, d2, hf, q⟩ := op2_ok q
      obtain ⟨w2, o2⟩ := R2.look d2
      obtain ⟨_, tw3, _, R3⟩ := R2.pop
      obtain ⟨w1, o1⟩ := R3.look d1
      obtain ⟨_, tw4, _, R4⟩ := R3.pop
      subst hC
      exact h2 S G2 td tv tw4 e2 σ W2 H2 x' y' z v1 v2 w1 w2 Q rfl R4 o1 o2 hf fun v' tw' G' H' R' => q v' tw' G' W2 H' R'
    · exact tM_mk hC R1 (.inr ⟨y, e2, m2, q.pop⟩)
  · exact tM_mk hC R (.inr ⟨x, e1, m1, q⟩)
theorem tM_un {r : V → Hp → VK → Prop} {f : D → Option D} (h1 : Op1 C.K r f) {σ : L2.St} {H : Hp} {Q : VK} (h : tM C wx (unM f ma) σ H Q) : tUn r (tM C wx ma) σ H Q := by
  obtain ⟨S, G, td, tv, tw, env, W, hC, R, q⟩ := h
  rcases bindE q with ⟨x, e1, m1, q⟩ | ⟨x, e1, m1, q⟩
  · refine tM_mk hC R (.inl ⟨x, e1, m1, fun v1 tw1 G1 W1 H1 R1 => ?_⟩)
    obtain ⟨x', z, d1, hf, q⟩ := op1_ok q
    obtain ⟨w1, o1⟩ := R1.look d1
    obtain ⟨_, tw4, _, R4⟩ := R1.pop
    subst hC
    exact h1 S G1 td tv tw4 e1 σ W1 H1 x' z v1 w1 Q rfl R4 o1 hf fun v' tw' G' H' R' => q v' tw' G' W1 H' R'
  · exact tM_mk hC R (.inr ⟨x, e1, m1, q⟩)
theorem me_op {op : Operator} {r : R2} {f : D → D → Option D} (hr : OpR X (binaryOp op) r) (h2 : Op2 C.K r f) (ha : PE X a (tM C wx ma)) (hb : PE X b (tM C wx mb)) : PE X (.BinOp a op b pos) (tM C wx (opM f ma mb)) :=
  PEimp (pe_op hr ha hb) fun _ _ _ h => tM_op h2 h
theorem me_un {op : UnaryOp} {r : V → Hp → VK → Prop} {f : D → Option D} (hr : UnR X (unaryOp op) r) (h1 : Op1 C.K r f) (ha : PE X a (tM C wx ma)) : PE X (.UnaryOp op a pos) (tM C wx (unM f ma)) :=
  PEimp (pe_un hr ha) fun _ _ _ h => tM_un h1 h
theorem mc {op : CmpOp} {r : R2} {f : D → D → Option D} (hr : OpR X (compareOp op) r) (h2 : Op2 C.K r f) (ha : PE X a (tM C wx ma)) (hb : PE X b (tM C wx mb)) : PC X op a b (tM C wx (opM f ma mb)) := ⟨fun pins s σ H Q I h => by
  have h' := tM_op h2 h
  exact binT ha hb I h' fun v u s2 x y H2 I2 rx ry q => hr pins s2 σ H2 x y v u Q I2 rx ry q⟩
theorem me_ix {r : R2} {f : D → D → Option D} (hr : IxR X r) (h2 : Op2 C.K r f) (ha : PE X a (tM C wx ma)) (hb : PE X b (tM C wx mb)) (hs : PlainIx b) : PE X (.Subscript a b pos) (tM C wx (opM f ma mb)) :=
  PEimp (pe_ix hr ha hb hs) fun _ _ _ h => tM_op h2 h
/-! ### argument lists, displays -/
theorem bindA {α : Type} {S : Sc} {td : List D} {tv : List V} {σ : L2.St} {Q : List V → Hp → Prop} {r : Re α} {k : α → Env → Re (List D)} (h : PostA S td tv σ Q wx (bindR r k)) :
    (∃ a e, r = .ok a e ∧ PostA S td tv σ Q wx (k a e)) ∨ ∃ x e, r = .ex x e ∧ PostX S td tv σ x e wx := by
  cases r with
  | ok a e => exact .inl ⟨a, e, rfl, h⟩
  | ex x e => exact .inr ⟨x, e, rfl, h⟩
  | bad => exact h.elim
theorem tMA_mk {S : Sc} {G : Hp} {td : List D} {tv : List V} {tw : List (List Addr)} {env : Env} {σ : L2.St} {W : List (List Addr)} {H : Hp} {Q : List V → Hp → Prop} {m : AM} (hC : S.C = C) (R : RR S G td tv tw env σ W H)
    (h : (∃ ds e, m env = .ok ds e ∧ ∀ vs tw' G' W' H', vs.length = ds.length → RR S G' (ds.reverse ++ td) (vs.reverse ++ tv) tw' e σ W' H' → Q vs H') ∨ ∃ x e, m env = .ex x e ∧ PostX S td tv σ x e wx) : tMA C wx m σ H Q := by
  refine ⟨S, G, td, tv, tw, env, W, hC, R, ?_⟩
  rcases h with ⟨d, e, h, q⟩ | ⟨x, e, h, q⟩ <;> (rw [h]; exact q)
theorem ma_nil : PA X [] (tMA C wx nilM) := PAimp pa_nil fun σ H Q h => by
  obtain ⟨S, G, td, tv, tw, env, W, hC, R, q⟩ := h
  exact q [] _ _ _ _ rfl R
theorem ma_cons {e : Expr} {es : List Expr} {mr : AM} (ha : PE X e (tM C wx ma)) (hr : PA X es (tMA C wx mr)) (hs : starEach (e :: es) X.env = (false, eval e X.env) :: starEach es X.env := by rfl) : PA X (e :: es) (tMA C wx (consM ma mr)) :=
  PAimp (pa_cons ha hr hs) fun σ H Q h => by
    obtain ⟨S, G, td, tv, tw, env, W, hC, R, q⟩ := h
    rcases bindA q with ⟨x, e1, m1, q⟩ | ⟨x, e1, m1, q⟩
    · refine tM_mk hC R (.inl ⟨x, e1, m1, fun v1 tw1 G1 W1 H1 R1 => ?_⟩)
      rcases bindA q with ⟨xs, e2, m2, q⟩ | ⟨y, e2, m2, q⟩
      · refine tMA_mk hC R1 (.inl ⟨xs, e2, m2, fun vs tw2 G2 W2 H2 hl R2 => ?_⟩)
        refine q (v1 :: vs) tw2 G2 W2 H2 (by simp [hl]) ?_
        simpa only [List.reverse_cons, List.append_assoc, List.singleton_append] using R2
      · exact tMA_mk hC R1 (.inr ⟨y, e2, m2, q.pop⟩)
    · exact tM_mk hC R (.inr ⟨x, e1, m1, q⟩)
theorem items_ok {S : Sc} {td : List D} {tv : List V} {σ : L2.St} {Q : VK} {k : List D → D} {ds : List D} {e : Env} (h : PostE S td tv σ Q wx (items k ds e)) :
    ∃ xs, vals e ds = some xs ∧ xs.length ≤ 1000 ∧ ∀ v tw' G' W' H', RR S G' (k xs :: td) (v :: tv) tw' e σ W' H' → Q v H' := by
  unfold items at h
  split at h
  · exact h.elim
  · split at h
    · exact ⟨_, by assumption, by assumption, h⟩
    · exact h.elim
theorem small_line {n : Nat} (h : n ≤ 1000) : n ≤ sizeLine := Nat.le_trans h (by decide)
theorem me_tup {es : List Expr} {mr : AM} {x1} (h : PA X es (tMA C wx mr)) : PE X (.Tuple es x1 pos) (tM C wx (tupM mr)) :=
  PEimp (pe_tup h) fun σ H Q h => by
    obtain ⟨S, G, td, tv, tw, env, W, hC, R, q⟩ := h
    rcases bindE q with ⟨ds, e1, m1, q⟩ | ⟨x, e1, m1, q⟩
    · obtain ⟨xs, hv, hl, q⟩ := items_ok q
      refine tMA_mk hC R (.inl ⟨ds, e1, m1, fun vs tw1 G1 W1 H1 hl1 R1 => ?_⟩)
      obtain ⟨G2, tw2, R2, _, f2⟩ := R1.frzAll hl1 hv
      have hlen := f2.length
      exact ⟨small_line (by omega), fun p hp => q _ _ _ _ _ (R2.newTup hp f2)⟩
    · exact tMA_mk hC R (.inr ⟨x, e1, m1, q⟩)
theorem me_lst {es : List Expr} {mr : AM} (h : PA X es (tMA C wx mr)) : PE X (.List es pos) (tM C wx (lstM mr)) :=
  PEimp (pe_lst h) fun σ H Q h => by
    obtain ⟨S, G, td, tv, tw, env, W, hC, R, q⟩ := h
    rcases bindE q with ⟨ds, e1, m1, q⟩ | ⟨x, e1, m1, q⟩
    · obtain ⟨xs, hv, hl, q⟩ := items_ok q
      refine tMA_mk hC R (.inl ⟨ds, e1, m1, fun vs tw1 G1 W1 H1 hl1 R1 => ?_⟩)
      obtain ⟨G2, tw2, R2, _, f2⟩ := R1.frzAll hl1 hv
      have hlen := f2.length
      exact ⟨small_line (by omega), fun p hp => q _ _ _ _ _ (R2.newLst hp f2)⟩
    · exact tMA_mk hC R (.inr ⟨x, e1, m1, q⟩)
end
/-! ### how data lies -/
def lstI : D → Option (List D)
  | .lst ds => some ds
  | .scr ds => some ds
  | .own ds => if fzL ds = true then some ds else none
  | _ => none
def tupI : D → Option (List D)
  | .tup ds => some ds
  | .ptp ds => some ds
  | _ => none
/-- a list that is tracked as such -/
def lstT : D → Option (List D)
  | .lst ds => some ds
  | .own ds => if fzL ds = true then some ds else none
  | _ => none
section
variable {K : PySem.W.Frag} {G H : Hp} {d : D} {v : V} {w : List Addr} {ds : List D}
theorem O.lstI (e : Sub G H) (h : O K G H d v w) (q : Mx.lstI d = some ds) : ∃ a vs, v = .ref a ∧ SqL K H a vs ∧ FL K G ds vs := by
  cases d with
  | lst xs =>
    cases q
    simp only [O, F] at h
    obtain ⟨_, a, vs, h1, h2, h3⟩ := h
    exact ⟨a, vs, h1, .inl (.inl (e.get h2)), h3⟩
  | scr xs =>
    cases q
    simp only [O, F] at h
    obtain ⟨_, a, vs, h1, h2, h3⟩ := h
    exact ⟨a, vs, h1, e.sl h2, h3⟩
  | own xs =>
    simp only [Mx.lstI] at q
    split at q
    · cases q
      simp only [O] at h
      rename_i hz
      obtain ⟨a, vs, fq, h1, _, h2, _, h4⟩ := h
      exact ⟨a, vs, h1, .inl (.inl h2), (OL.to_FL hz h4).2⟩
    · cases q
  | _ => cases q
theorem O.lstT (e : Sub G H) (h : O K G H d v w) (q : Mx.lstT d = some ds) : ∃ a vs, v = .ref a ∧ H a = some (.lst vs) ∧ FL K G ds vs := by
  cases d with
  | lst xs =>
    cases q
    simp only [O, F] at h
    obtain ⟨_, a, vs, h1, h2, h3⟩ := h
    exact ⟨a, vs, h1, e.get h2, h3⟩
  | own xs =>
    simp only [Mx.lstT] at q
    split at q
    · cases q
      simp only [O] at h
      rename_i hz
      obtain ⟨a, vs, fq, h1, _, h2, _, h4⟩ := h
      exact ⟨a, vs, h1, h2, (OL.to_FL hz h4).2⟩
    · cases q
  | _ => cases q
theorem O.tupI (e : Sub G H) (h : O K G H d v w) (q : Mx.tupI d = some ds) : ∃ a vs, v = .ref a ∧ SqT K H a vs ∧ FL K G ds vs := by
  cases d with
  | tup xs =>
    cases q
    simp only [O, F] at h
    obtain ⟨_, a, vs, h1, h2, h3⟩ := h
    exact ⟨a, vs, h1, e.st h2, h3⟩
  | ptp xs =>
    cases q
    simp only [O, F] at h
    obtain ⟨_, a, o, vs, h1, h2, hd, h3⟩ := h
    exact ⟨a, vs, h1, .inl (.inr ⟨o, e.get h2⟩), h3⟩
  | _ => cases q
/-- any tuple, as a tuple that lies there -/
theorem F.of_tup {K : PySem.W.Frag} {G H : Hp} {d : D} {v : V} {w : List Addr} {ds : List D} (h : O K G H d v w) (q : Mx.tupI d = some ds) : F K G (.tup ds) v := by
  cases d <;> simp only [Mx.tupI, Option.some.injEq, reduceCtorEq] at q
  · subst q
    simp only [O] at h
    exact h.2
  · subst q
    simp only [O, F] at h
    obtain ⟨_, a, o, vs, h1, h2, _, h3⟩ := h
    simp only [F]
    exact ⟨a, vs, h1, .inl (.inr ⟨o, h2⟩), h3⟩
theorem O.int {i : Int} (h : O K G H (.int i) v w) : v = .int i := by simp only [O] at h; exact h.2
theorem O.str {i : Str} (h : O K G H (.str i) v w) : v = .str i := by simp only [O] at h; exact h.2
theorem O.bl {i : Bool} (h : O K G H (.bl i) v w) : v = .bl i := by simp only [O] at h; exact h.2
theorem O.non (h : O K G H .non v w) : v = .non := by simp only [O] at h; exact h.2
end
section
variable {S : Sc} {G H : Hp} {td : List D} {tv : List V} {tw : List (List Addr)} {env : Env} {σ : L2.St} {W : List (List Addr)}
theorem RR.pushI (R : RR S G td tv tw env σ W H) (i : Int) : RR S G (.int i :: td) (.int i :: tv) ([] :: tw) env σ W H := R.push (by simp only [F])
theorem RR.pushB (R : RR S G td tv tw env σ W H) (i : Bool) : RR S G (.bl i :: td) (.bl i :: tv) ([] :: tw) env σ W H := R.push (by simp only [F])
theorem RR.pushS (R : RR S G td tv tw env σ W H) (i : Str) : RR S G (.str i :: td) (.str i :: tv) ([] :: tw) env σ W H := R.push (by simp only [F])
theorem RR.pushN (R : RR S G td tv tw env σ W H) : RR S G (.non :: td) (.non :: tv) ([] :: tw) env σ W H := R.push (by simp only [F])
end
/-- a new tuple of frozen items, whose object is known to be plain -/
theorem RR.newPtp {S : Sc} {G H : Hp} {td : List D} {tv : List V} {tw : List (List Addr)} {env : Env} {σ : L2.St} {W : List (List Addr)} (R : RR S G td tv tw env σ W H) {p : Addr} {o : Obj} {ds : List D} {vs : List V} (h : H p = none) (hd : o.dict = none) (f : FL S.K G ds vs) : RR S (upd G p (.frz o (.tup vs))) (.ptp ds :: td) (.ref p :: tv) ([] :: tw) env σ W (upd H p (.frz o (.tup vs))) :=
  (R.newF h).push (by
    simp only [F]
    exact ⟨p, o, vs, rfl, upd_same, hd, FL.mono (Sub.new (R.sub.none h)) _ _ f⟩)
/-! ### operators -/
def big : Nat := 1000000
theorem big_line {n : Nat} (h : n ≤ big) : n ≤ sizeLine := Nat.le_trans h (by decide)
def rOr (r r' : R2) : R2 := fun x y H Q => r x y H Q ∨ r' x y H Q
theorem OpR.or {X : Cx} {f : Value → Value → Sem Value} {r r' : R2} (h : OpR X f r) (h' : OpR X f r') : OpR X f (rOr r r') := fun pins s σ H x y v u Q I rx ry q =>
  q.elim (fun q => h pins s σ H x y v u Q I rx ry q) fun q => h' pins s σ H x y v u Q I rx ry q
end Mx
set_option Elab.async false
set_option linter.all false
set_option maxRecDepth 100000
set_option maxHeartbeats 1000000
/-! Mx4: operators, comparisons, subscripts, slices -/
namespace Mx
open PySem L2 PyProof.Rows
/-! ### arithmetic -/
def addD (x y : D) : Option D := match x, y with
  | .int i, .int j => some (.int (i + j))
  | .str a, .str b => if a.length + b.length ≤ big then some (.str (a ++ b)) else none
  | x, y => match lstT x, lstT y with
    | some xs, some ys => if xs.length + ys.length ≤ big then some (.own (xs ++ ys)) else none
    | _, _ => match tupI x, tupI y with
      | some xs, some ys => if xs.length + ys.length ≤ big then some (.tup (xs ++ ys)) else none
      | _, _ => none
def subD (x y : D) : Option D := match x, y with
  | .int i, .int j => some (.int (i - j))
  | _, _ => none
def mulOk (i j : Int) : Bool := (decide (-(2 ^ 64) < i) && decide (i < 2 ^ 64)) || (decide (-(2 ^ 64) < j) && decide (j < 2 ^ 64))
def mulD (x y : D) : Option D := match y with
  | .int k => match x with
    | .int i => if mulOk i k = true then some (.int (i * k)) else none
    | x => match lstT x with
      | some xs => if -1000 ≤ k ∧ k ≤ 100000 ∧ xs.length * k.toNat ≤ big then some (.own (List.replicate k.toNat xs).flatten) else none
      | none => none
  | _ => none
def fdivD (x y : D) : Option D := match x, y with
  | .int i, .int j => if 0 < j ∧ j < 1073741824 then some (.int (i / j)) else none
  | _, _ => none
def modD (x y : D) : Option D := match x, y with
  | .int i, .int j => if 0 < j then some (.int (i % j)) else none
  | _, _ => none
def powD (x y : D) : Option D := match x, y with
  | .int i, .int j => if 0 ≤ j ∧ j ≤ 1000 ∧ i.natAbs < 1000000 then some (.int (i ^ j.toNat)) else none
  | _, _ => none
def negD (x : D) : Option D := match x with
  | .int i => some (.int (-i))
  | _ => none
section
variable {X : Cx} {xd : Option Addr} {xn : Option Xn} {wx : WX} {a b : Expr} {ma mb : EM} {pos : Pos}
theorem op2_add (K : PySem.W.Frag) : Op2 K (rOr (rI0 fun i j => .int (i + j)) (rOr (fun x y H Q => ∃ i j, x = .str i ∧ y = .str j ∧ i.length + j.length ≤ sizeLine ∧ Q (.str (i ++ j)) H) (rOr rCat (rCatA K)))) addD := by
  intro S G td tv tw env σ W H x y z v u w1 w2 Q hK R ox oy hf q
  unfold addD at hf
  split at hf
  · cases hf
    exact .inl ⟨_, _, ox.int, oy.int, q _ _ _ _ (R.pushI _)⟩
  · split at hf
    · cases hf
      rename_i hz
      exact .inr (.inl ⟨_, _, ox.str, oy.str, big_line hz, q _ _ _ _ (R.pushS _)⟩)
    · cases hf
  · split at hf
    · rename_i xs ys h1 h2
      split at hf
      · cases hf
        rename_i hz
        obtain ⟨a1, vs, e1, p1, f1⟩ := ox.lstT R.sub h1
        obtain ⟨a2, us, e2, p2, f2⟩ := oy.lstT R.sub h2
        refine .inr (.inr (.inl ⟨a1, a2, vs, us, e1, e2, p1, p2, ?_, fun p hp => q _ _ _ _ (R.newLst hp (hK ▸ f1.append f2))⟩))
        rw [← f1.length, ← f2.length]
        exact big_line hz
      · cases hf
    · split at hf
      · rename_i xs ys h1 h2
        split at hf
        · cases hf
          rename_i hz
          obtain ⟨a1, vs, e1, p1, f1⟩ := ox.tupI R.sub h1
          obtain ⟨a2, us, e2, p2, f2⟩ := oy.tupI R.sub h2
          have l1 := f1.length
          have l2 := f2.length
          refine .inr (.inr (.inr ⟨a1, a2, vs, us, e1, e2, p1, p2, by rw [← l1, ← l2]; exact big_line hz, fun e => ?_, fun _ e => ?_, fun _ _ p hp => q _ _ _ _ (R.newTup hp (hK ▸ f1.append f2))⟩))
          · have : xs = [] := List.eq_nil_of_length_eq_zero (by rw [l1, e]; rfl)
            subst this
            rw [← e2]
            exact q _ _ _ _ (R.push (hK ▸ F.of_tup oy h2))
          · have : ys = [] := List.eq_nil_of_length_eq_zero (by rw [l2, e]; rfl)
            subst this
            rw [← e1]
            rw [List.append_nil] at q
            exact q _ _ _ _ (R.push (hK ▸ F.of_tup ox h1))
        · cases hf
      · cases hf
theorem me_add (ha : PE X a (tM (ct X xd xn) wx ma)) (hb : PE X b (tM (ct X xd xn) wx mb)) : PE X (.BinOp a .Add b pos) (tM (ct X xd xn) wx (opM addD ma mb)) :=
  me_op (OpR.or op_add (OpR.or op_add_str (OpR.or op_cat op_catA))) (op2_add X.K) ha hb
theorem me_sub (ha : PE X a (tM (ct X xd xn) wx ma)) (hb : PE X b (tM (ct X xd xn) wx mb)) : PE X (.BinOp a .Sub b pos) (tM (ct X xd xn) wx (opM subD ma mb)) :=
  me_op op_sub (fun S G td tv tw env σ W H x y z v u w1 w2 Q hK R ox oy hf q => by
    unfold subD at hf
    split at hf
    · cases hf
      exact ⟨_, _, ox.int, oy.int, q _ _ _ _ (R.pushI _)⟩
    · cases hf) ha hb
theorem me_mul (ha : PE X a (tM (ct X xd xn) wx ma)) (hb : PE X b (tM (ct X xd xn) wx mb)) : PE X (.BinOp a .Mult b pos) (tM (ct X xd xn) wx (opM mulD ma mb)) :=
  me_op (OpR.or op_mul op_rep) (fun S G td tv tw env σ W H x y z v u w1 w2 Q hK R ox oy hf q => by
    unfold mulD at hf
    split at hf
    · rename_i k
      split at hf
      · split at hf
        · cases hf
          rename_i hz
          refine .inl ⟨_, _, ox.int, oy.int, ?_, q _ _ _ _ (R.pushI _)⟩
          simp only [mulOk, Bool.or_eq_true, Bool.and_eq_true, decide_eq_true_eq] at hz
          exact hz
        · cases hf
      · split at hf
        · rename_i xs h1
          split at hf
          · cases hf
            rename_i hz
            obtain ⟨a1, vs, e1, p1, f1⟩ := ox.lstT R.sub h1
            refine .inr ⟨a1, k, vs, e1, oy.int, p1, by omega, by omega, ?_, fun p hp => q _ _ _ _ (R.newLst hp (hK ▸ ?_))⟩
            · rw [← f1.length]; exact big_line hz.2.2
            · have : ∀ n : Nat, FL X.K G (List.replicate n xs).flatten (List.replicate n vs).flatten := fun n => by
                induction n with
                | zero => simp [FL]
                | succ n ih => simp only [List.replicate_succ, List.flatten_cons]; exact f1.append ih
              exact this _
          · cases hf
        · cases hf
    · cases hf) ha hb
theorem me_fdiv (ha : PE X a (tM (ct X xd xn) wx ma)) (hb : PE X b (tM (ct X xd xn) wx mb)) : PE X (.BinOp a .FloorDiv b pos) (tM (ct X xd xn) wx (opM fdivD ma mb)) :=
  me_op op_fdiv (fun S G td tv tw env σ W H x y z v u w1 w2 Q hK R ox oy hf q => by
    unfold fdivD at hf
    split at hf
    · split at hf
      · cases hf
        rename_i hz
        exact ⟨_, _, ox.int, oy.int, hz, q _ _ _ _ (R.pushI _)⟩
      · cases hf
    · cases hf) ha hb
theorem me_mod (ha : PE X a (tM (ct X xd xn) wx ma)) (hb : PE X b (tM (ct X xd xn) wx mb)) : PE X (.BinOp a .Mod b pos) (tM (ct X xd xn) wx (opM modD ma mb)) :=
  me_op op_mod (fun S G td tv tw env σ W H x y z v u w1 w2 Q hK R ox oy hf q => by
    unfold modD at hf
    split at hf
    · split at hf
      · cases hf
        rename_i hz
        exact ⟨_, _, ox.int, oy.int, hz, q _ _ _ _ (R.pushI _)⟩
      · cases hf
    · cases hf) ha hb
theorem me_pow (ha : PE X a (tM (ct X xd xn) wx ma)) (hb : PE X b (tM (ct X xd xn) wx mb)) : PE X (.BinOp a .Pow b pos) (tM (ct X xd xn) wx (opM powD ma mb)) :=
  me_op op_pow (fun S G td tv tw env σ W H x y z v u w1 w2 Q hK R ox oy hf q => by
    unfold powD at hf
    split at hf
    · split at hf
      · cases hf
        rename_i hz
        exact ⟨_, _, ox.int, oy.int, ⟨hz.1, by omega, by omega⟩, q _ _ _ _ (R.pushI _)⟩
      · cases hf
    · cases hf) ha hb
theorem me_neg (ha : PE X a (tM (ct X xd xn) wx ma)) : PE X (.UnaryOp .USub a pos) (tM (ct X xd xn) wx (unM negD ma)) :=
  me_un un_neg (fun S G td tv tw env σ W H x z v w1 Q hK R ox hf q => by
    unfold negD at hf
    split at hf
    · cases hf
      exact ⟨_, ox.int, q _ _ _ _ (R.pushI _)⟩
    · cases hf) ha
end
/-! ### data as the library has it -/
mutual
def py : D → Option PyData
  | .non => some .none
  | .bl b => some (.bool b)
  | .int i => some (.int i)
  | .str x => some (.str x)
  | .tup ds => (pyL ds).map .tuple
  | .ptp ds => (pyL ds).map .tuple
  | .lst ds => (pyL ds).map .list
  | .own ds => (pyL ds).map .list
  | _ => none
def pyL : List D → Option (List PyData)
  | [] => some []
  | d :: ds => match py d with
    | none => none
    | some p => match pyL ds with
      | none => none
      | some ps => some (p :: ps)
end
mutual
theorem F.dp {K : PySem.W.Frag} {G : Hp} : ∀ (d : D) (v : V) (p : PyData), F K G d v → py d = some p → Dp K G v p
  | .non, v, p, h, e => by simp only [F] at h; simp only [py] at e; cases e; subst h; exact .non
  | .bl b, v, p, h, e => by simp only [F] at h; simp only [py] at e; cases e; subst h; exact .bl b
  | .int i, v, p, h, e => by simp only [F] at h; simp only [py] at e; cases e; subst h; exact .int i
  | .str x, v, p, h, e => by simp only [F] at h; simp only [py] at e; cases e; subst h; exact .str x
  | .tup ds, v, p, h, e => by
    simp only [F] at h
    obtain ⟨a, vs, rfl, h2, h3⟩ := h
    simp only [py, Option.map_eq_some_iff] at e
    obtain ⟨ps, e1, rfl⟩ := e
    exact .tup h2 (FL.dp ds vs ps h3 e1)
  | .ptp ds, v, p, h, e => by
    simp only [F] at h
    obtain ⟨a, o, vs, rfl, h2, hd, h3⟩ := h
    simp only [py, Option.map_eq_some_iff] at e
    obtain ⟨ps, e1, rfl⟩ := e
    exact .tup (.inl (.inr ⟨o, h2⟩)) (FL.dp ds vs ps h3 e1)
  | .lst ds, v, p, h, e => by
    simp only [F] at h
    obtain ⟨a, vs, rfl, h2, h3⟩ := h
    simp only [py, Option.map_eq_some_iff] at e
    obtain ⟨ps, e1, rfl⟩ := e
    exact .lst (.inl (.inl h2)) (FL.dp ds vs ps h3 e1)
  | .scr _, _, _, _, e => by simp only [py] at e; cases e
  | .own _, _, _, h, _ => by simp only [F] at h
  | .dct _ _, _, _, _, e => by simp only [py] at e; cases e
  | .odct _ _, _, _, _, e => by simp only [py] at e; cases e
  | .obj _ _ _, _, _, _, e => by simp only [py] at e; cases e
  | .oobj _ _ _, _, _, _, e => by simp only [py] at e; cases e
  | .rf _, _, _, _, e => by simp only [py] at e; cases e
theorem FL.dp {K : PySem.W.Frag} {G : Hp} : ∀ (ds : List D) (vs : List V) (ps : List PyData), FL K G ds vs → pyL ds = some ps → DpAll K G vs ps
  | [], vs, ps, h, e => by
    simp only [FL] at h
    simp only [pyL] at e
    cases e
    subst h
    exact .nil
  | d :: ds, vs, ps, h, e => by
    simp only [FL] at h
    obtain ⟨v, ws, rfl, h2, h3⟩ := h
    simp only [pyL] at e
    split at e
    · cases e
    · split at e
      · cases e
      · cases e
        exact .cons (F.dp d v _ h2 (by assumption)) (FL.dp ds ws _ h3 (by assumption))
end
mutual
theorem Dp.mono {K : PySem.W.Frag} {G H : Hp} (e : Sub G H) : ∀ (p : PyData) (v : V), Dp K G v p → Dp K H v p
  | .none, _, h => by cases h; exact .non
  | .bool b, _, h => by cases h; exact .bl b
  | .int i, _, h => by cases h; exact .int i
  | .str x, _, h => by cases h; exact .str x
  | .list ps, _, h => by cases h with | lst a b => exact .lst (e.sl a) (DpAll.mono e ps _ b)
  | .tuple ps, _, h => by cases h with | tup a b => exact .tup (e.st a) (DpAll.mono e ps _ b)
  | .dict _, _, h => by cases h
theorem DpAll.mono {K : PySem.W.Frag} {G H : Hp} (e : Sub G H) : ∀ (ps : List PyData) (vs : List V), DpAll K G vs ps → DpAll K H vs ps
  | [], _, h => by cases h; exact .nil
  | p :: ps, _, h => by cases h with | cons a b => exact .cons (Dp.mono e p _ a) (DpAll.mono e ps _ b)
end
mutual
theorem O.dp {K : PySem.W.Frag} {G H : Hp} (s : Sub G H) : ∀ (d : D) (v : V) (w : List Addr) (p : PyData), O K G H d v w → py d = some p → Dp K H v p
  | .own ds, v, w, p, h, e => by
    simp only [O] at h
    obtain ⟨a, vs, fq, rfl, _, h2, _, h4⟩ := h
    simp only [py, Option.map_eq_some_iff] at e
    obtain ⟨ps, e1, rfl⟩ := e
    exact .lst (.inl (.inl h2)) (OL.dp s ds vs fq ps h4 e1)
  | .non, v, w, p, h, e => Dp.mono s _ _ (F.dp _ _ _ ((O.of_fz rfl).mp h).2 e)
  | .bl b, v, w, p, h, e => Dp.mono s _ _ (F.dp _ _ _ ((O.of_fz rfl).mp h).2 e)
  | .int i, v, w, p, h, e => Dp.mono s _ _ (F.dp _ _ _ ((O.of_fz rfl).mp h).2 e)
  | .str x, v, w, p, h, e => Dp.mono s _ _ (F.dp _ _ _ ((O.of_fz rfl).mp h).2 e)
  | .tup ds, v, w, p, h, e => Dp.mono s _ _ (F.dp _ _ _ ((O.of_fz rfl).mp h).2 e)
  | .ptp ds, v, w, p, h, e => Dp.mono s _ _ (F.dp _ _ _ ((O.of_fz rfl).mp h).2 e)
  | .lst ds, v, w, p, h, e => Dp.mono s _ _ (F.dp _ _ _ ((O.of_fz rfl).mp h).2 e)
  | .scr _, _, _, _, _, e => by simp only [py] at e; cases e
  | .dct _ _, _, _, _, _, e => by simp only [py] at e; cases e
  | .odct _ _, _, _, _, _, e => by simp only [py] at e; cases e
  | .obj _ _ _, _, _, _, _, e => by simp only [py] at e; cases e
  | .oobj _ _ _, _, _, _, _, e => by simp only [py] at e; cases e
  | .rf _, _, _, _, _, e => by simp only [py] at e; cases e
theorem OL.dp {K : PySem.W.Frag} {G H : Hp} (s : Sub G H) : ∀ (ds : List D) (vs : List V) (w : List Addr) (ps : List PyData), OL K G H ds vs w → pyL ds = some ps → DpAll K H vs ps
  | [], vs, w, ps, h, e => by
    simp only [OL] at h
    simp only [pyL] at e
    cases e
    rw [h.1]
    exact .nil
  | d :: ds, vs, w, ps, h, e => by
    simp only [OL] at h
    obtain ⟨v, ws, f1, f2, rfl, _, h2, h3⟩ := h
    simp only [pyL] at e
    split at e
    · cases e
    · split at e
      · cases e
      · cases e
        exact .cons (O.dp s d v f1 _ h2 (by assumption)) (OL.dp s ds ws f2 _ h3 (by assumption))
end
/-! ### comparisons -/
def eqvD (x y : D) : Option Bool := match x, y with
  | .str a, .str b => some (decide (a = b))
  | x, y => match py x, py y with
    | some p, some q => if SeqAt.shaped p = true ∧ SeqAt.shaped q = true then some (PyData.eqv p q) else none
    | _, _ => none
def eqD (x y : D) : Option D := (eqvD x y).map .bl
def neD (x y : D) : Option D := (eqvD x y).map fun b => .bl (!b)
theorem eqvD_some {x y : D} {b : Bool} (h : eqvD x y = some b) : (∃ i j, x = .str i ∧ y = .str j ∧ b = decide (i = j)) ∨ ∃ p q, py x = some p ∧ py y = some q ∧ SeqAt.shaped p = true ∧ SeqAt.shaped q = true ∧ b = PyData.eqv p q := by
  unfold eqvD at h
  split at h
  · cases h
    exact .inl ⟨_, _, rfl, rfl, rfl⟩
  · split at h
    · split at h
      · cases h
        rename_i hz
        exact .inr ⟨_, _, by assumption, by assumption, hz.1, hz.2, rfl⟩
      · cases h
    · cases h
def cmpD (f : Int → Int → Bool) (x y : D) : Option D := match x, y with
  | .int i, .int j => some (.bl (f i j))
  | _, _ => none
def intsD : List D → Option (List Int)
  | [] => some []
  | .int i :: ds => (intsD ds).map (i :: ·)
  | _ => none
theorem FL.ints {K : PySem.W.Frag} {G : Hp} : ∀ {ds : List D} {vs : List V} {ns : List Int}, FL K G ds vs → intsD ds = some ns → vs = ns.map V.int
  | [], vs, ns, h, e => by
    simp only [FL] at h
    cases e
    rw [h]; rfl
  | d :: ds, vs, ns, h, e => by
    simp only [FL] at h
    obtain ⟨v, ws, rfl, h2, h3⟩ := h
    cases d with
    | int i =>
      simp only [intsD, Option.map_eq_some_iff] at e
      obtain ⟨ms, e1, rfl⟩ := e
      simp only [F] at h2
      rw [h2, FL.ints h3 e1]
      rfl
    | _ => cases e
def ltD (x y : D) : Option D := match x, y with
  | .int i, .int j => some (.bl (decide (i < j)))
  | .str a, .str b => some (.bl (decide (a.cps.toList < b.cps.toList)))
  | .tup xs, .tup ys => match intsD xs, intsD ys with
    | some ns, some ms => some (.bl (HT.lexLt ns ms))
    | _, _ => none
  | _, _ => none
def flatO : D → Option V
  | .non => some .non
  | .bl b => some (.bl b)
  | .int i => some (.int i)
  | .str x => some (.str x)
  | _ => none
def flatL : List D → Option (List V)
  | [] => some []
  | d :: ds => match flatO d with
    | none => none
    | some v => (flatL ds).map (v :: ·)
theorem F.flat {K : PySem.W.Frag} {G : Hp} {d : D} {v u : V} (h : F K G d v) (e : flatO d = some u) : v = u ∧ flatV u = true := by
  cases d <;> first | (cases e; simp only [F] at h; exact ⟨h, rfl⟩) | (cases e; done)
theorem FL.flat {K : PySem.W.Frag} {G : Hp} : ∀ {ds : List D} {vs us : List V}, FL K G ds vs → flatL ds = some us → vs = us ∧ us.all flatV = true
  | [], vs, us, h, e => by
    simp only [FL] at h
    cases e
    exact ⟨h, rfl⟩
  | d :: ds, vs, us, h, e => by
    simp only [FL] at h
    obtain ⟨v, ws, rfl, h2, h3⟩ := h
    simp only [flatL] at e
    split at e
    · cases e
    · simp only [Option.map_eq_some_iff] at e
      obtain ⟨zs, e1, rfl⟩ := e
      obtain ⟨q1, q2⟩ := h2.flat (by assumption)
      obtain ⟨q3, q4⟩ := FL.flat h3 e1
      subst q1 q3
      exact ⟨rfl, by simp [q2, q4]⟩
theorem O.flat {K : PySem.W.Frag} {G H : Hp} {d : D} {v u : V} {w : List Addr} (h : O K G H d v w) (e : flatO d = some u) : v = u ∧ flatV u = true := by
  cases d <;> first | exact F.flat ((O.of_fz rfl).mp h).2 e | (cases e; done)
/-- items of a list or a tuple -/
def seqI (d : D) : Option (List D) := match lstI d with
  | some ds => some ds
  | none => tupI d
theorem O.seqI {K : PySem.W.Frag} {G H : Hp} {d : D} {v : V} {w : List Addr} {ds : List D} (e : Sub G H) (h : O K G H d v w) (q : Mx.seqI d = some ds) : ∃ a vs, v = .ref a ∧ (SqL K H a vs ∨ SqT K H a vs) ∧ FL K G ds vs := by
  unfold Mx.seqI at q
  split at q
  · cases q
    obtain ⟨a, vs, h1, h2, h3⟩ := h.lstI e (by assumption)
    exact ⟨a, vs, h1, .inl h2, h3⟩
  · obtain ⟨a, vs, h1, h2, h3⟩ := h.tupI e q
    exact ⟨a, vs, h1, .inr h2, h3⟩
def inB (x y : D) : Option Bool := match y with
  | .str z => match x with
    | .str s => if s.cps.size = 1 then some (decide (s.cps.getD 0 0 ∈ z.cps.toList)) else none
    | _ => none
  | y => match flatO x with
    | none => none
    | some v => match seqI y with
      | none => none
      | some ds => (flatL ds).map fun us => inV v us
def inD (x y : D) : Option D := (inB x y).map .bl
def ninD (x y : D) : Option D := (inB x y).map fun b => .bl (!b)
theorem one_sign {s : Str} (h : s.cps.size = 1) : s = ⟨#[s.cps.getD 0 0]⟩ := by
  obtain ⟨c⟩ := s
  simp only at h
  congr 1
  apply Array.ext
  · simp [h]
  · intro i h1 h2
    have : i = 0 := by omega
    subst this
    simp [Array.getD, h]
section
variable {X : Cx} {xd : Option Addr} {xn : Option Xn} {wx : WX} {a b : Expr} {ma mb : EM} {pos : Pos}
theorem mc_eq (hu : X.A.units + 64 < cLine) (ha : PE X a (tM (ct X xd xn) wx ma)) (hb : PE X b (tM (ct X xd xn) wx mb)) : PC X .Eq a b (tM (ct X xd xn) wx (opM eqD ma mb)) :=
  mc (op_eq.or (op_eqD hu)) (fun S G td tv tw env σ W H x y z v u w1 w2 Q hK R ox oy hf q => by
    simp only [eqD, Option.map_eq_some_iff] at hf
    obtain ⟨b, h1, rfl⟩ := hf
    rcases eqvD_some h1 with ⟨i, j, rfl, rfl, rfl⟩ | ⟨p1, p2, e1, e2, s1, s2, rfl⟩
    · obtain ⟨rfl, rfl⟩ : v = .str i ∧ u = .str j := by
        simp only [O] at ox oy
        exact ⟨ox.2, oy.2⟩
      refine .inl ⟨rfl, ?_⟩
      have e : decide (V.str i = V.str j) = decide (i = j) := by simp
      rw [e]
      exact q _ _ _ _ (R.pushB _)
    · exact .inr ⟨p1, p2, ox.dp R.sub _ _ _ _ e1, oy.dp R.sub _ _ _ _ e2, s1, s2, q _ _ _ _ (R.pushB _)⟩) ha hb
theorem mc_ne (hu : X.A.units + 64 < cLine) (ha : PE X a (tM (ct X xd xn) wx ma)) (hb : PE X b (tM (ct X xd xn) wx mb)) : PC X .NotEq a b (tM (ct X xd xn) wx (opM neD ma mb)) :=
  mc (op_ne.or (op_neD hu)) (fun S G td tv tw env σ W H x y z v u w1 w2 Q hK R ox oy hf q => by
    simp only [neD, Option.map_eq_some_iff] at hf
    obtain ⟨b, h1, rfl⟩ := hf
    rcases eqvD_some h1 with ⟨i, j, rfl, rfl, rfl⟩ | ⟨p1, p2, e1, e2, s1, s2, rfl⟩
    · obtain ⟨rfl, rfl⟩ : v = .str i ∧ u = .str j := by
        simp only [O] at ox oy
        exact ⟨ox.2, oy.2⟩
      refine .inl ⟨rfl, ?_⟩
      have e : (!decide (V.str i = V.str j)) = !decide (i = j) := by simp
      rw [e]
      exact q _ _ _ _ (R.pushB _)
    · exact .inr ⟨p1, p2, ox.dp R.sub _ _ _ _ e1, oy.dp R.sub _ _ _ _ e2, s1, s2, q _ _ _ _ (R.pushB _)⟩) ha hb
theorem op2_cmp {K : PySem.W.Frag} {f : Int → Int → Bool} : Op2 K (rI0 fun i j => .bl (f i j)) (cmpD f) := fun S G td tv tw env σ W H x y z v u w1 w2 Q hK R ox oy hf q => by
  unfold cmpD at hf
  split at hf
  · cases hf
    exact ⟨_, _, ox.int, oy.int, q _ _ _ _ (R.pushB _)⟩
  · cases hf
theorem mc_le (ha : PE X a (tM (ct X xd xn) wx ma)) (hb : PE X b (tM (ct X xd xn) wx mb)) : PC X .LtE a b (tM (ct X xd xn) wx (opM (cmpD fun i j => decide (i ≤ j)) ma mb)) := mc op_le op2_cmp ha hb
theorem mc_gt (ha : PE X a (tM (ct X xd xn) wx ma)) (hb : PE X b (tM (ct X xd xn) wx mb)) : PC X .Gt a b (tM (ct X xd xn) wx (opM (cmpD fun i j => decide (j < i)) ma mb)) := mc op_gt op2_cmp ha hb
theorem mc_ge (ha : PE X a (tM (ct X xd xn) wx ma)) (hb : PE X b (tM (ct X xd xn) wx mb)) : PC X .GtE a b (tM (ct X xd xn) wx (opM (cmpD fun i j => decide (j ≤ i)) ma mb)) := mc op_ge op2_cmp ha hb
theorem op2_lt (K : PySem.W.Frag) : Op2 K (rOr (rI0 fun i j => .bl (decide (i < j))) (rOr (fun x y H Q => ∃ i j, x = .str i ∧ y = .str j ∧ Q (.bl (decide (i.cps.toList < j.cps.toList))) H) (rLtT K))) ltD := fun S G td tv tw env σ W H x y z v u w1 w2 Q hK R ox oy hf q => by
  unfold ltD at hf
  split at hf
  · cases hf
    exact .inl ⟨_, _, ox.int, oy.int, q _ _ _ _ (R.pushB _)⟩
  · cases hf
    exact .inr (.inl ⟨_, _, ox.str, oy.str, q _ _ _ _ (R.pushB _)⟩)
  · split at hf
    · cases hf
      obtain ⟨a1, vs, e1, p1, f1⟩ := ox.tupI R.sub rfl
      obtain ⟨a2, us, e2, p2, f2⟩ := oy.tupI R.sub rfl
      have g1 := f1.ints (by assumption)
      have g2 := f2.ints (by assumption)
      subst g1 g2
      exact .inr (.inr ⟨a1, a2, _, _, e1, e2, p1, p2, q _ _ _ _ (R.pushB _)⟩)
    · cases hf
  · cases hf
theorem mc_lt (hu : X.A.units < cLine) (ha : PE X a (tM (ct X xd xn) wx ma)) (hb : PE X b (tM (ct X xd xn) wx mb)) : PC X .Lt a b (tM (ct X xd xn) wx (opM ltD ma mb)) := mc (OpR.or op_lt (OpR.or op_lt_str (op_ltT hu))) (op2_lt X.K) ha hb
theorem op2_in (K : PySem.W.Frag) : Op2 K (rOr (rIn K false) fun x y H Q => ∃ (c : Nat) (z : Str), x = .str ⟨#[c]⟩ ∧ y = .str z ∧ Q (.bl (decide (c ∈ z.cps.toList))) H) inD := fun S G td tv tw env σ W H x y z v u w1 w2 Q hK R ox oy hf q => by
  simp only [inD, Option.map_eq_some_iff] at hf
  obtain ⟨b, h1, rfl⟩ := hf
  unfold inB at h1
  split at h1
  · split at h1
    · split at h1
      · cases h1
        rename_i s hs
        refine .inr ⟨_, _, ?_, oy.str, q _ _ _ _ (R.pushB _)⟩
        rw [ox.str, ← one_sign hs]
      · cases h1
    · cases h1
  · split at h1
    · cases h1
    · split at h1
      · cases h1
      · simp only [Option.map_eq_some_iff] at h1
        obtain ⟨us, h2, rfl⟩ := h1
        obtain ⟨rfl, fx⟩ := ox.flat (by assumption)
        obtain ⟨p, vs, rfl, sq, fl⟩ := oy.seqI R.sub (by assumption)
        obtain ⟨rfl, fs⟩ := fl.flat h2
        exact .inl ⟨p, _, rfl, sq, fx, fs, q _ _ _ _ (R.pushB _)⟩
theorem op2_nin (K : PySem.W.Frag) : Op2 K (rOr (rIn K true) fun x y H Q => ∃ (c : Nat) (z : Str), x = .str ⟨#[c]⟩ ∧ y = .str z ∧ Q (.bl (!decide (c ∈ z.cps.toList))) H) ninD := fun S G td tv tw env σ W H x y z v u w1 w2 Q hK R ox oy hf q => by
  simp only [ninD, Option.map_eq_some_iff] at hf
  obtain ⟨b, h1, rfl⟩ := hf
  unfold inB at h1
  split at h1
  · split at h1
    · split at h1
      · cases h1
        rename_i s hs
        refine .inr ⟨_, _, ?_, oy.str, q _ _ _ _ (R.pushB _)⟩
        rw [ox.str, ← one_sign hs]
      · cases h1
    · cases h1
  · split at h1
    · cases h1
    · split at h1
      · cases h1
      · simp only [Option.map_eq_some_iff] at h1
        obtain ⟨us, h2, rfl⟩ := h1
        obtain ⟨rfl, fx⟩ := ox.flat (by assumption)
        obtain ⟨p, vs, rfl, sq, fl⟩ := oy.seqI R.sub (by assumption)
        obtain ⟨rfl, fs⟩ := fl.flat h2
        exact .inl ⟨p, _, rfl, sq, fx, fs, q _ _ _ _ (R.pushB _)⟩
theorem mc_in (ha : PE X a (tM (ct X xd xn) wx ma)) (hb : PE X b (tM (ct X xd xn) wx mb)) : PC X .In a b (tM (ct X xd xn) wx (opM inD ma mb)) := mc (OpR.or op_in_seq op_in_sign) (op2_in X.K) ha hb
theorem mc_nin (ha : PE X a (tM (ct X xd xn) wx ma)) (hb : PE X b (tM (ct X xd xn) wx mb)) : PC X .NotIn a b (tM (ct X xd xn) wx (opM ninD ma mb)) := mc (OpR.or op_notIn_seq op_notIn_sign) (op2_nin X.K) ha hb
/-- x is None, x is not None -/
def isND (x : D) : Option D := match x with
  | .non => some (.bl true)
  | .rf _ => none
  | _ => some (.bl false)
def notND (x : D) : Option D := match x with
  | .non => some (.bl false)
  | .rf _ => none
  | _ => some (.bl true)
theorem O.isN {K : PySem.W.Frag} {G H : Hp} {d : D} {v : V} {w : List Addr} (h : O K G H d v w) : decide (v = .non) = match d with | .non => true | _ => false := by
  cases d <;> simp only [O, F] at h
  all_goals first
    | (obtain ⟨_, rfl⟩ := h; rfl)
    | (obtain ⟨_, _, _, rfl, _⟩ := h; rfl)
    | (obtain ⟨_, _, _, _, rfl, _⟩ := h; rfl)
    | (obtain ⟨_, _, rfl, _⟩ := h; rfl)
    | (obtain ⟨_, _, _, rfl, _⟩ := h; rfl)
theorem mc_isN {j pos'} (ha : PE X a (tM (ct X xd xn) wx ma)) : PC X .Is a (.Constant .none j pos') (tM (ct X xd xn) wx (unM isND ma)) :=
  PCimp (pc_isN ha) fun σ H Q h => tM_un (r := fun x H Q => Q (.bl (decide (x = .non))) H) (fun S G td tv tw env σ W H x z v w1 Q hK R ox hf q => by
    have e := ox.isN
    show Q (.bl (decide (v = .non))) H
    rw [e]
    cases x <;> simp only [isND] at hf <;> cases hf <;> exact q _ _ _ _ (R.pushB _)) h
theorem mc_notN {j pos'} (ha : PE X a (tM (ct X xd xn) wx ma)) : PC X .IsNot a (.Constant .none j pos') (tM (ct X xd xn) wx (unM notND ma)) :=
  PCimp (pc_notN ha) fun σ H Q h => tM_un (r := fun x H Q => Q (.bl (!decide (x = .non))) H) (fun S G td tv tw env σ W H x z v w1 Q hK R ox hf q => by
    have e := ox.isN
    show Q (.bl (!decide (v = .non))) H
    rw [e]
    cases x <;> simp only [notND] at hf <;> cases hf <;> exact q _ _ _ _ (R.pushB _)) h
end
/-! ### subscripts -/
def ixD (x y : D) : Option D := match y with
  | .int i => match x with
    | .str z => if z.length ≤ big then (atI z.cps.toList i).map fun c => .str ⟨#[c]⟩ else none
    | x => match seqI x with
      | some ds => atI ds i
      | none => none
  | _ => none
theorem FL.atI {K : PySem.W.Frag} {G : Hp} {ds : List D} {vs : List V} {i : Int} {d : D} (h : FL K G ds vs) (e : L2.atI ds i = some d) : ∃ v, L2.atI vs i = some v ∧ F K G d v := by
  unfold L2.atI at e ⊢
  rw [h.length] at e
  obtain ⟨j, e1, e2⟩ := Option.bind_eq_some_iff.mp e
  obtain ⟨v, h1, h2⟩ := h.get e2
  exact ⟨v, by rw [e1]; exact h1, h2⟩
section
variable {X : Cx} {xd : Option Addr} {xn : Option Xn} {wx : WX} {a b : Expr} {ma mb : EM} {pos : Pos}
theorem op2_ix (K : PySem.W.Frag) : Op2 K (rIx K) ixD := fun S G td tv tw env σ W H x y z v u w1 w2 Q hK R ox oy hf q => by
  unfold ixD at hf
  split at hf
  · split at hf
    · split at hf
      · rename_i hz
        simp only [Option.map_eq_some_iff] at hf
        obtain ⟨c, h1, rfl⟩ := hf
        exact .inr (.inr ⟨_, _, c, ox.str, oy.int, big_line hz, h1, q _ _ _ _ (R.pushS _)⟩)
      · cases hf
    · split at hf
      · obtain ⟨p, vs, rfl, sq, fl⟩ := ox.seqI R.sub (by assumption)
        obtain ⟨v2, h1, h2⟩ := fl.atI hf
        rcases sq with sq | sq
        · exact .inl ⟨p, vs, _, v2, rfl, oy.int, sq, h1, q _ _ _ _ (R.push (hK ▸ h2))⟩
        · exact .inr (.inl ⟨p, vs, _, v2, rfl, oy.int, sq, h1, q _ _ _ _ (R.push (hK ▸ h2))⟩)
      · cases hf
  · cases hf
theorem me_sx (ha : PE X a (tM (ct X xd xn) wx ma)) (hb : PE X b (tM (ct X xd xn) wx mb)) (hs : PlainIx b := by exact fun _ _ => rfl) : PE X (.Subscript a b pos) (tM (ct X xd xn) wx (opM ixD ma mb)) := me_ix ix_seq (op2_ix X.K) ha hb hs
end
/-! ### slices -/
/-- a slice's part -/
abbrev PM := Env → Re (Option Int)
def PostO (S : Sc) (td : List D) (tv : List V) (σ : L2.St) (Q : Option Int → Hp → Prop) (wx : WX) : Re (Option Int) → Prop
  | .ok o e => ∀ tw' G' W' H', RR S G' td tv tw' e σ W' H' → Q o H'
  | .ex x e => PostX S td tv σ x e wx
  | .bad => False
def tMO (C : Ct) (wx : WX) (m : PM) : TO := fun σ H Q => ∃ (S : Sc) (G : Hp) (td : List D) (tv : List V) (tw : List (List Addr)) (env : Env) (W : List (List Addr)),
  S.C = C ∧ RR S G td tv tw env σ W H ∧ PostO S td tv σ Q wx (m env)
def noP : PM := fun env => .ok none env
def someP (m : EM) : PM := fun env => bindR (m env) fun x e => match deref e x with
  | some (.int i) => .ok (some i) e
  | _ => .bad
theorem tMO_mk {C : Ct} {wx : WX} {S : Sc} {G : Hp} {td : List D} {tv : List V} {tw : List (List Addr)} {env : Env} {σ : L2.St} {W : List (List Addr)} {H : Hp} {Q : Option Int → Hp → Prop} {m : PM} (hC : S.C = C) (R : RR S G td tv tw env σ W H)
    (h : (∃ o e, m env = .ok o e ∧ ∀ tw' G' W' H', RR S G' td tv tw' e σ W' H' → Q o H') ∨ ∃ x e, m env = .ex x e ∧ PostX S td tv σ x e wx) : tMO C wx m σ H Q := by
  refine ⟨S, G, td, tv, tw, env, W, hC, R, ?_⟩
  rcases h with ⟨d, e, h, q⟩ | ⟨x, e, h, q⟩ <;> (rw [h]; exact q)
def cutL {α : Type} (xs : List α) (lo hi : Option Int) : List α := (xs.drop (HT.sIx xs.length 0 lo)).take (HT.sIx xs.length xs.length hi - HT.sIx xs.length 0 lo)
def cutD (x : D) (lo hi : Option Int) : Option D := match x with
  | .str z => if z.length ≤ big then some (.str (cutS z lo hi)) else none
  | x => match lstI x with
    | some ds => some (.own (cutL ds lo hi))
    | none => match tupI x with
      | some ds => some (.tup (cutL ds lo hi))
      | none => none
def cut1 (x : D) (lo hi : Option Int) (e : Env) : Re D := match deref e x with
  | none => .bad
  | some x' => re e (cutD x' lo hi)
def slM (a : EM) (l h : PM) : EM := fun env => bindR (a env) fun x e1 => bindR (l e1) fun lo e2 => bindR (h e2) fun hi e3 => cut1 x lo hi e3
section
variable {X : Cx} {xd : Option Addr} {xn : Option Xn} {wx : WX} {a b e : Expr} {ma mb : EM} {pos p2 : Pos} {lo hi : Option Expr} {ml mh : PM}
theorem mo_none : PO X none (tMO (ct X xd xn) wx noP) := ⟨fun pins s σ H Q I h => po_none.run pins s σ H Q I (by
  obtain ⟨S, G, td, tv, tw, env, W, hC, R, q⟩ := h
  exact q _ _ _ _ R)⟩
theorem mo_some (ha : PE X a (tM (ct X xd xn) wx ma)) : PO X (some a) (tMO (ct X xd xn) wx (someP ma)) := ⟨fun pins s σ H Q I h => (po_some ha).run pins s σ H Q I (by
  obtain ⟨S, G, td, tv, tw, env, W, hC, R, q⟩ := h
  unfold someP at q
  cases hm : ma env with
  | bad => rw [hm] at q; exact q.elim
  | ex x e => rw [hm] at q; exact tM_mk hC R (.inr ⟨x, e, hm, q⟩)
  | ok x e =>
    rw [hm] at q
    simp only [bindR] at q
    split at q
    · rename_i hd
      refine tM_mk hC R (.inl ⟨_, e, hm, fun v tw' G' W' H' R' => ?_⟩)
      obtain ⟨w, o⟩ := R'.look hd
      obtain ⟨_, _, _, R2⟩ := R'.pop
      exact ⟨_, o.int, q _ _ _ _ R2⟩
    · exact q.elim)⟩
theorem me_sl (ha : PE X a (tM (ct X xd xn) wx ma)) (hl : PO X lo (tMO (ct X xd xn) wx ml)) (hh : PO X hi (tMO (ct X xd xn) wx mh)) : PE X (.Subscript a (.Slice lo hi none p2) pos) (tM (ct X xd xn) wx (slM ma ml mh)) :=
  PEimp (pe_slice (SlR.or sl_list (SlR.or sl_tupA sl_str)) ha hl hh) fun σ H Q h => by
    obtain ⟨S, G, td, tv, tw, env, W, hC, R, q⟩ := h
    rcases bindE q with ⟨x, e1, m1, q⟩ | ⟨x, e1, m1, q⟩
    · refine tM_mk hC R (.inl ⟨x, e1, m1, fun v1 tw1 G1 W1 H1 R1 => ?_⟩)
      rcases bindE q with ⟨lo, e2, m2, q⟩ | ⟨x2, e2, m2, q⟩
      · refine tMO_mk hC R1 (.inl ⟨lo, e2, m2, fun tw2 G2 W2 H2 R2 => ?_⟩)
        rcases bindE q with ⟨hi, e3, m3, q⟩ | ⟨x2, e3, m3, q⟩
        · refine tMO_mk hC R2 (.inl ⟨hi, e3, m3, fun tw3 G3 W3 H3 R3 => ?_⟩)
          unfold cut1 at q
          split at q
          · exact q.elim
          · rename_i x' d1
            cases hf : cutD x' lo hi with
            | none => rw [hf] at q; exact q.elim
            | some z =>
              rw [hf] at q
              replace q : ∀ v tw' G' W' H', RR S G' (z :: td) (v :: tv) tw' e3 σ W' H' → Q v H' := q
              have hK : S.K = X.K := congrArg Ct.K hC
              obtain ⟨w1, o1⟩ := R3.look d1
              obtain ⟨_, tw4, _, R4⟩ := R3.pop
              rw [hK] at o1
              unfold cutD at hf
              split at hf
              · split at hf
                · cases hf
                  rename_i hz
                  exact .inr (.inr ⟨_, o1.str, big_line hz, q _ _ _ _ _ (R4.pushS _)⟩)
                · cases hf
              · split at hf
                · cases hf
                  obtain ⟨p, vs, rfl, sq, fl⟩ := o1.lstI R4.sub (by assumption)
                  refine .inl ⟨p, vs, rfl, sq, fun r hr => q _ _ _ _ _ (R4.newLst hr (hK ▸ ?_))⟩
                  unfold cutL cutV
                  rw [fl.length]
                  exact (fl.drop _).take _
                · split at hf
                  · cases hf
                    have ox := o1
                    obtain ⟨p, vs, rfl, sq, fl⟩ := o1.tupI R4.sub (by assumption)
                    refine .inr (.inl ⟨p, vs, rfl, sq, fun hw => ?_, fun hw r hr => q _ _ _ _ _ (R4.newTup hr (hK ▸ ?_))⟩)
                    · rename_i ds hd
                      refine q _ _ _ _ _ (R4.push (hK ▸ ?_))
                      have : cutL ds lo hi = ds := by
                        unfold cutL
                        rw [fl.length, hw.1, hw.2]
                        simp [← fl.length]
                      rw [this]
                      exact F.of_tup ox hd
                    · unfold cutL cutV
                      rw [fl.length]
                      exact (fl.drop _).take _
                  · cases hf
        · exact tMO_mk hC R2 (.inr ⟨x2, e3, m3, q.pop⟩)
      · exact tMO_mk hC R1 (.inr ⟨x2, e2, m2, q.pop⟩)
    · exact tM_mk hC R (.inr ⟨x, e1, m1, q⟩)
/-- xs[::-1] -/
def revD (x : D) : Option D := match lstI x with
  | some ds => some (.own ds.reverse)
  | none => none
theorem me_rev {k : Nat} {p1 p2 p3 : Pos} (ha : PE X a (tM (ct X xd xn) wx ma)) : PE X (.Subscript a (.Slice none none (some (.UnaryOp .USub (.Constant (.int 1) k p1) p2)) p3) pos) (tM (ct X xd xn) wx (unM revD ma)) :=
  PEimp (pe_revL ha) fun σ H Q h => tM_un (r := fun x H1 Q => ∃ a xs, x = .ref a ∧ SqL X.K H1 a xs ∧ ∀ p, H1 p = none → Q (.ref p) (upd H1 p (.lst xs.reverse))) (fun S G td tv tw env σ W H x z v w1 Q hK R ox hf q => by
    unfold revD at hf
    split at hf
    · cases hf
      obtain ⟨p, vs, rfl, sq, fl⟩ := ox.lstI R.sub (by assumption)
      exact ⟨p, vs, rfl, sq, fun r hr => q _ _ _ _ (R.newLst hr (hK ▸ fl.reverse))⟩
    · cases hf) h
end
end Mx
set_option Elab.async false
set_option linter.all false
set_option maxRecDepth 100000
set_option maxHeartbeats 1000000
/-! Mx5: tests, boolean operators, statements, targets -/
namespace Mx
open PySem L2 PyProof.Rows
theorem itT {A B : Prop} (h : A) : (if true = true then A else B) := by simpa using h
theorem itF {A B : Prop} (h : B) : (if false = true then A else B) := by simpa using h
/-! ### tests -/
def asB (x : D) (e : Env) : Re Bool := match deref e x with
  | some (.bl b) => .ok b e
  | _ => .bad
def boolM (m : EM) : BM := fun env => bindR (m env) asB
def andB (a b : BM) : BM := fun env => bindR (a env) fun c e => match c with
  | true => b e
  | false => .ok false e
def orB (a b : BM) : BM := fun env => bindR (a env) fun c e => match c with
  | true => .ok true e
  | false => b e
def notB (a : BM) : BM := fun env => bindR (a env) fun c e => .ok (!c) e
/-- and, or of values; all but the last one are truth values -/
def andV (a b : EM) : EM := fun env => bindR (boolM a env) fun c e => match c with
  | true => b e
  | false => .ok (.bl false) e
def orV (a b : EM) : EM := fun env => bindR (boolM a env) fun c e => match c with
  | true => .ok (.bl true) e
  | false => b e
def notV (a : EM) : EM := fun env => bindR (boolM a env) fun c e => .ok (.bl (!c)) e
def ifM (t : BM) (a b : EM) : EM := fun env => bindR (t env) fun c e => match c with
  | true => a e
  | false => b e
def asI (x : D) : Option Int := match x with
  | .int i => some i
  | _ => none
/-- x op y op z, of ints -/
def chainM (f g : Int → Int → Bool) (a b c : EM) : EM := fun env => bindR (a env) fun x e1 => bindR (b e1) fun y e2 => match (deref e2 x).bind asI with
  | none => .bad
  | some i => match (deref e2 y).bind asI with
    | none => .bad
    | some j => match f i j with
      | false => .ok (.bl false) e2
      | true => bindR (c e2) fun z e3 => match (deref e3 z).bind asI with
        | none => .bad
        | some k => .ok (.bl (g j k)) e3
section
variable {X : Cx} {xd : Option Addr} {xn : Option Xn} {wx : WX} {a b c : Expr} {ma mb mc' : EM} {pos : Pos} {ta tb : BM} {rest : List Expr}
theorem bindB {α : Type} {S : Sc} {td : List D} {tv : List V} {σ : L2.St} {Q : Bool → Hp → Prop} {r : Re α} {k : α → Env → Re Bool} (h : PostB S td tv σ Q wx (bindR r k)) :
    (∃ a e, r = .ok a e ∧ PostB S td tv σ Q wx (k a e)) ∨ ∃ x e, r = .ex x e ∧ PostX S td tv σ x e wx := by
  cases r with
  | ok a e => exact .inl ⟨a, e, rfl, h⟩
  | ex x e => exact .inr ⟨x, e, rfl, h⟩
  | bad => exact h.elim
theorem tMB_mk {C : Ct} {S : Sc} {G : Hp} {td : List D} {tv : List V} {tw : List (List Addr)} {env : Env} {σ : L2.St} {W : List (List Addr)} {H : Hp} {Q : Bool → Hp → Prop} {m : BM} (hC : S.C = C) (R : RR S G td tv tw env σ W H)
    (h : (∃ b e, m env = .ok b e ∧ ∀ tw' G' W' H', RR S G' td tv tw' e σ W' H' → Q b H') ∨ ∃ x e, m env = .ex x e ∧ PostX S td tv σ x e wx) : tMB C wx m σ H Q := by
  refine ⟨S, G, td, tv, tw, env, W, hC, R, ?_⟩
  rcases h with ⟨d, e, h, q⟩ | ⟨x, e, h, q⟩ <;> (rw [h]; exact q)
theorem asB_ok {S : Sc} {td : List D} {tv : List V} {σ : L2.St} {Q : Bool → Hp → Prop} {x : D} {e : Env} (h : PostB S td tv σ Q wx (asB x e)) : ∃ b, deref e x = some (.bl b) ∧ ∀ tw' G' W' H', RR S G' td tv tw' e σ W' H' → Q b H' := by
  unfold asB at h
  split at h
  · exact ⟨_, by assumption, h⟩
  · exact h.elim
/-- a truth value out of an expression -/
theorem tM_bool {m : EM} {σ : L2.St} {H : Hp} {Q : Bool → Hp → Prop} (h : tMB (ct X xd xn) wx (boolM m) σ H Q) : tM (ct X xd xn) wx m σ H fun v H1 => ∃ c, v = .bl c ∧ Q c H1 := by
  obtain ⟨S, G, td, tv, tw, env, W, hC, R, q⟩ := h
  rcases bindB q with ⟨x, e1, m1, q⟩ | ⟨x, e1, m1, q⟩
  · refine tM_mk hC R (.inl ⟨x, e1, m1, fun v1 tw1 G1 W1 H1 R1 => ?_⟩)
    obtain ⟨b, d1, q⟩ := asB_ok q
    obtain ⟨w, o⟩ := R1.look d1
    obtain ⟨_, _, _, R2⟩ := R1.pop
    exact ⟨b, o.bl, q _ _ _ _ R2⟩
  · exact tM_mk hC R (.inr ⟨x, e1, m1, q⟩)
theorem mtB {e : Expr} {m : EM} (h : PT X e (tB (tM (ct X xd xn) wx m))) : PT X e (tMB (ct X xd xn) wx (boolM m)) := PTimp h fun σ H Q h => tM_bool h
theorem mt_val {e : Expr} {m : EM} (h : PE X e (tM (ct X xd xn) wx m)) (he : ∀ whole, isTrue e X.env whole = (do let v ← whole; standAt e.pos; holding [v] (truthy v)) := by intro _; rfl) : PT X e (tMB (ct X xd xn) wx (boolM m)) := mtB (pt_val h he)
theorem mw_and1 (h : PT X a (tMB (ct X xd xn) wx ta)) : PW X (.BoolOp .And [a] pos) (tMB (ct X xd xn) wx ta) := pw_and1 h
theorem mw_or1 (h : PT X a (tMB (ct X xd xn) wx ta)) : PW X (.BoolOp .Or [a] pos) (tMB (ct X xd xn) wx ta) := pw_or1 h
theorem mw_and (h : PT X a (tMB (ct X xd xn) wx ta)) (k : PW X (.BoolOp .And (b :: rest) pos) (tMB (ct X xd xn) wx tb)) : PW X (.BoolOp .And (a :: b :: rest) pos) (tMB (ct X xd xn) wx (andB ta tb)) := PWimp (pw_and h k) fun σ H Q h => by
  obtain ⟨S, G, td, tv, tw, env, W, hC, R, q⟩ := h
  rcases bindB q with ⟨c, e1, m1, q⟩ | ⟨x, e1, m1, q⟩
  · refine tMB_mk hC R (.inl ⟨c, e1, m1, fun tw' G' W' H' R' => ?_⟩)
    cases c with
    | true => exact itT ⟨S, G', td, tv, tw', e1, W', hC, R', q⟩
    | false => exact itF (q _ _ _ _ R')
  · exact tMB_mk hC R (.inr ⟨x, e1, m1, q⟩)
theorem mw_or (h : PT X a (tMB (ct X xd xn) wx ta)) (k : PW X (.BoolOp .Or (b :: rest) pos) (tMB (ct X xd xn) wx tb)) : PW X (.BoolOp .Or (a :: b :: rest) pos) (tMB (ct X xd xn) wx (orB ta tb)) := PWimp (pw_or h k) fun σ H Q h => by
  obtain ⟨S, G, td, tv, tw, env, W, hC, R, q⟩ := h
  rcases bindB q with ⟨c, e1, m1, q⟩ | ⟨x, e1, m1, q⟩
  · refine tMB_mk hC R (.inl ⟨c, e1, m1, fun tw' G' W' H' R' => ?_⟩)
    cases c with
    | true => exact itT (q _ _ _ _ R')
    | false => exact itF ⟨S, G', td, tv, tw', e1, W', hC, R', q⟩
  · exact tMB_mk hC R (.inr ⟨x, e1, m1, q⟩)
theorem mt_not (h : PT X a (tMB (ct X xd xn) wx ta)) : PT X (.UnaryOp .Not a pos) (tMB (ct X xd xn) wx (notB ta)) := PTimp (pt_not h) fun σ H Q h => by
  obtain ⟨S, G, td, tv, tw, env, W, hC, R, q⟩ := h
  rcases bindB q with ⟨c, e1, m1, q⟩ | ⟨x, e1, m1, q⟩
  · exact tMB_mk hC R (.inl ⟨c, e1, m1, fun tw' G' W' H' R' => q _ _ _ _ R'⟩)
  · exact tMB_mk hC R (.inr ⟨x, e1, m1, q⟩)
theorem me_and (h : PE X a (tM (ct X xd xn) wx ma)) (k : PE X (.BoolOp .And (b :: rest) pos) (tM (ct X xd xn) wx mb)) : PE X (.BoolOp .And (a :: b :: rest) pos) (tM (ct X xd xn) wx (andV ma mb)) := PEimp (pe_and h k) fun σ H Q h => by
  obtain ⟨S, G, td, tv, tw, env, W, hC, R, q⟩ := h
  refine tM_bool (Q := fun c H1 => if c = true then tM (ct X xd xn) wx mb σ H1 Q else Q (.bl false) H1) ?_
  rcases bindE q with ⟨c, e1, m1, q⟩ | ⟨x, e1, m1, q⟩
  · refine tMB_mk hC R (.inl ⟨c, e1, m1, fun tw' G' W' H' R' => ?_⟩)
    cases c with
    | true => exact itT ⟨S, G', td, tv, tw', e1, W', hC, R', q⟩
    | false => exact itF (q _ _ _ _ _ (R'.pushB _))
  · exact tMB_mk hC R (.inr ⟨x, e1, m1, q⟩)
theorem me_or (h : PE X a (tM (ct X xd xn) wx ma)) (k : PE X (.BoolOp .Or (b :: rest) pos) (tM (ct X xd xn) wx mb)) : PE X (.BoolOp .Or (a :: b :: rest) pos) (tM (ct X xd xn) wx (orV ma mb)) := PEimp (pe_or h k) fun σ H Q h => by
  obtain ⟨S, G, td, tv, tw, env, W, hC, R, q⟩ := h
  refine tM_bool (Q := fun c H1 => if c = true then Q (.bl true) H1 else tM (ct X xd xn) wx mb σ H1 Q) ?_
  rcases bindE q with ⟨c, e1, m1, q⟩ | ⟨x, e1, m1, q⟩
  · refine tMB_mk hC R (.inl ⟨c, e1, m1, fun tw' G' W' H' R' => ?_⟩)
    cases c with
    | true => exact itT (q _ _ _ _ _ (R'.pushB _))
    | false => exact itF ⟨S, G', td, tv, tw', e1, W', hC, R', q⟩
  · exact tMB_mk hC R (.inr ⟨x, e1, m1, q⟩)
theorem me_not (h : PE X a (tM (ct X xd xn) wx ma)) : PE X (.UnaryOp .Not a pos) (tM (ct X xd xn) wx (notV ma)) := PEimp (pe_not h) fun σ H Q h => by
  obtain ⟨S, G, td, tv, tw, env, W, hC, R, q⟩ := h
  refine tM_bool (Q := fun c H1 => Q (.bl (!c)) H1) ?_
  rcases bindE q with ⟨c, e1, m1, q⟩ | ⟨x, e1, m1, q⟩
  · exact tMB_mk hC R (.inl ⟨c, e1, m1, fun tw' G' W' H' R' => q _ _ _ _ _ (R'.pushB _)⟩)
  · exact tMB_mk hC R (.inr ⟨x, e1, m1, q⟩)
theorem me_if {t : Expr} (ht : PT X t (tMB (ct X xd xn) wx ta)) (h : PE X a (tM (ct X xd xn) wx ma)) (k : PE X b (tM (ct X xd xn) wx mb)) : PE X (.IfExp t a b pos) (tM (ct X xd xn) wx (ifM ta ma mb)) := PEimp (pe_ifExp ht h k) fun σ H Q h => by
  obtain ⟨S, G, td, tv, tw, env, W, hC, R, q⟩ := h
  rcases bindE q with ⟨c, e1, m1, q⟩ | ⟨x, e1, m1, q⟩
  · refine tMB_mk hC R (.inl ⟨c, e1, m1, fun tw' G' W' H' R' => ?_⟩)
    cases c with
    | true => exact itT ⟨S, G', td, tv, tw', e1, W', hC, R', q⟩
    | false => exact itF ⟨S, G', td, tv, tw', e1, W', hC, R', q⟩
  · exact tMB_mk hC R (.inr ⟨x, e1, m1, q⟩)
theorem asI_bind {e : Env} {x : D} {i : Int} (h : (deref e x).bind asI = some i) : deref e x = some (.int i) := by
  obtain ⟨d, h1, h2⟩ := Option.bind_eq_some_iff.mp h
  cases d with
  | int j => cases h2; exact h1
  | _ => cases h2
theorem me_chain {f g : Int → Int → Bool} {op op' : CmpOp} (ho : OpR X (compareOp op) (rI0 fun i j => .bl (f i j))) (ho' : OpR X (compareOp op') (rI0 fun i j => .bl (g i j))) (ha : PE X a (tM (ct X xd xn) wx ma)) (hb : PE X b (tM (ct X xd xn) wx mb)) (hc : PE X c (tM (ct X xd xn) wx mc'))
    (hm : lastMarks [op, op'] [b, c] = false := by with_unfolding_all rfl) : PE X (.Compare a [op, op'] [b, c] pos) (tM (ct X xd xn) wx (chainM f g ma mb mc')) :=
  PEimp (pe_chain ho ho' ha hb hc hm) fun σ H Q h => by
    obtain ⟨S, G, td, tv, tw, env, W, hC, R, q⟩ := h
    rcases bindE q with ⟨x, e1, m1, q⟩ | ⟨x, e1, m1, q⟩
    · refine tM_mk hC R (.inl ⟨x, e1, m1, fun v1 tw1 G1 W1 H1 R1 => ?_⟩)
      rcases bindE q with ⟨y, e2, m2, q⟩ | ⟨y, e2, m2, q⟩
      · refine tM_mk hC R1 (.inl ⟨y, e2, m2, fun v2 tw2 G2 W2 H2 R2 => ?_⟩)
        split at q
        · exact q.elim
        · rename_i i d1
          split at q
          · exact q.elim
          · rename_i j d2
            obtain ⟨w2, o2⟩ := R2.look (asI_bind d2)
            obtain ⟨_, tw3, _, R3⟩ := R2.pop
            obtain ⟨w1, o1⟩ := R3.look (asI_bind d1)
            obtain ⟨_, tw4, _, R4⟩ := R3.pop
            refine ⟨i, j, o1.int, o2.int, _, rfl, ?_⟩
            split at q
            · rename_i hf
              rw [hf]
              exact itF (q _ _ _ _ _ (R4.pushB _))
            · rename_i hf
              rw [hf]
              refine itT ?_
              rcases bindE q with ⟨z, e3, m3, q⟩ | ⟨z, e3, m3, q⟩
              · refine tM_mk hC R4 (.inl ⟨z, e3, m3, fun v3 tw5 G5 W5 H5 R5 => ?_⟩)
                split at q
                · exact q.elim
                · rename_i k d3
                  obtain ⟨w3, o3⟩ := R5.look (asI_bind d3)
                  obtain ⟨_, tw6, _, R6⟩ := R5.pop
                  exact ⟨j, k, o2.int, o3.int, q _ _ _ _ _ (R6.pushB _)⟩
              · exact tM_mk hC R4 (.inr ⟨z, e3, m3, q⟩)
      · exact tM_mk hC R1 (.inr ⟨y, e2, m2, q.pop⟩)
    · exact tM_mk hC R (.inr ⟨x, e1, m1, q⟩)
end
/-! ### statements -/
inductive Out where
  | nx (e : Env)
  | rt (d : D) (e : Env)
  | bk (e : Env)
  | ct (e : Env)
  | ex (x : Xn) (e : Env)
  | bad
abbrev SM := Env → Out
/-- slots that keep their places: the changed parameters -/
def Keep (ro : List Bool) (σ σ' : L2.St) : Prop := ∀ i : Nat, ro[i]? = some true → σ'[i]? = σ[i]?
theorem Keep.refl {ro : List Bool} {σ : L2.St} : Keep ro σ σ := fun _ _ => rfl
theorem Keep.trans {ro : List Bool} {a b c : L2.St} (h : Keep ro a b) (k : Keep ro b c) : Keep ro a c := fun i e => (k i e).trans (h i e)
theorem Keep.set {ro : List Bool} {σ : L2.St} {i : Nat} {x : Option V} (h : (ro[i]?).getD false = false) : Keep ro σ (σ.set i x) := fun j e => by
  have : i ≠ j := fun z => by subst z; rw [e] at h; cases h
  rw [List.getElem?_set_ne this]
/-- no reference among the temporaries -/
def NR (td : List D) : Prop := ∀ i, D.rf i ∉ td
def Post (S : Sc) (td : List D) (tv : List V) (ro : List Bool) (σ : L2.St) (wx : WX) (D' : Ends) : Out → Prop
  | .nx e => ∀ tw' G' σ' W' H', RR S G' td tv tw' e σ' W' H' → Keep ro σ σ' → D'.nx σ' H'
  | .rt d e => ∀ v tw' G' σ' W' H', RR S G' (d :: td) (v :: tv) tw' e σ' W' H' → Keep ro σ σ' → D'.rt v H'
  | .bk e => ∀ tw' G' σ' W' H', RR S G' td tv tw' e σ' W' H' → Keep ro σ σ' → D'.bk σ' H'
  | .ct e => ∀ tw' G' σ' W' H', RR S G' td tv tw' e σ' W' H' → Keep ro σ σ' → D'.ct σ' H'
  | .ex x e => ∀ cls od tw' G' σ' W' H', RR S G' td tv tw' e σ' W' H' → Keep ro σ σ' → XR S.K G' x cls od → wx cls od σ' H'
  | .bad => False
def tMS (C : Ct) (wx : WX) (ro : List Bool) (m : SM) : TS := fun D' σ H => ∃ (S : Sc) (G : Hp) (td : List D) (tv : List V) (tw : List (List Addr)) (env : Env) (W : List (List Addr)),
  S.C = C ∧ NR td ∧ RR S G td tv tw env σ W H ∧ Post S td tv ro σ wx D' (m env)
theorem Post.keep {S : Sc} {td : List D} {tv : List V} {ro : List Bool} {σ σ1 : L2.St} {wx : WX} {o : Out} {D' : Ends} (h : Post S td tv ro σ wx D' o) (k : Keep ro σ σ1) : Post S td tv ro σ1 wx D' o := by
  cases o with
  | nx e => exact fun tw' G' σ' W' H' R q => h tw' G' σ' W' H' R (k.trans q)
  | rt d e => exact fun v tw' G' σ' W' H' R q => h v tw' G' σ' W' H' R (k.trans q)
  | bk e => exact fun tw' G' σ' W' H' R q => h tw' G' σ' W' H' R (k.trans q)
  | ct e => exact fun tw' G' σ' W' H' R q => h tw' G' σ' W' H' R (k.trans q)
  | ex x e => exact fun cls od tw' G' σ' W' H' R q => h cls od tw' G' σ' W' H' R (k.trans q)
  | bad => exact h
def bindS {α : Type} (r : Re α) (k : α → Env → Out) : Out := match r with
  | .ok a e => k a e
  | .ex x e => .ex x e
  | .bad => .bad
def skipS : SM := fun env => .nx env
def seqS (a b : SM) : SM := fun env => match a env with
  | .nx e => b e
  | r => r
/-- the value goes into a slot: owned ones move, frozen ones are shared -/
def putV (env : Env) : D → Option D
  | .rf i => match env[i]? with
    | some (some d) => if d.fz = true then some d else none
    | _ => none
  | d => some d
def set1 (i : Nat) (x : D) (e : Env) : Out := match putV e x with
  | none => .bad
  | some d => if i < e.length then .nx (e.set i (some d)) else .bad
def setS (i : Nat) (m : EM) : SM := fun env => bindS (m env) fun x e => set1 i x e
def dropS (m : EM) : SM := fun env => bindS (m env) fun _ e => .nx e
/-- owned ones are handed out, slots' own ones must be moved -/
def ret1 (x : D) (e : Env) : Out := match putV e x with
  | none => .bad
  | some d => .rt d e
def retS (m : EM) : SM := fun env => bindS (m env) ret1
def retN : SM := fun env => .rt .non env
def ifS (t : BM) (a b : SM) : SM := fun env => bindS (t env) fun c e => match c with
  | true => a e
  | false => b e
def frzS (i : Nat) (b : SM) : SM := fun env => match env[i]? with
  | some (some d) => b (env.set i (some d.frz))
  | _ => .bad
def brkS : SM := fun env => .bk env
def cntS : SM := fun env => .ct env
def badS : SM := fun _ => .bad
theorem RR.putV {S : Sc} {G H : Hp} {td : List D} {tv : List V} {tw : List (List Addr)} {env : Env} {σ : L2.St} {W : List (List Addr)} {x d : D} {v : V} (R : RR S G (x :: td) (v :: tv) tw env σ W H) (h : Mx.putV env x = some d) : ∃ tw', RR S G (d :: td) (v :: tv) tw' env σ W H ∧ ∀ j, d ≠ .rf j := by
  cases x with
  | rf i =>
    have hv : Mx.val env (.rf i) = some d := h
    obtain ⟨e1, hz⟩ := val_rf hv
    obtain ⟨w, o⟩ := R.look (e := d) (by simp only [deref]; rw [e1])
    obtain ⟨_, tw', _, R2⟩ := R.pop
    exact ⟨_, R2.push ((O.of_fz hz).mp o).2, fun j z => by rw [z] at hz; cases hz⟩
  | _ => cases h; exact ⟨tw, R, fun j z => nomatch z⟩
section
variable {X : Cx} {xd : Option Addr} {xn : Option Xn} {wx : WX} {e a b : Expr} {ma mb m : EM} {pos : Pos} {ro : List Bool} {st : Stmt} {sts : List Stmt} {s1 s2 : SM} {tb : BM}
theorem bindP {α : Type} {S : Sc} {td : List D} {tv : List V} {σ : L2.St} {D' : Ends} {r : Re α} {k : α → Env → Out} (h : Post S td tv ro σ wx D' (bindS r k)) :
    (∃ a e, r = .ok a e ∧ Post S td tv ro σ wx D' (k a e)) ∨ ∃ x e, r = .ex x e ∧ PostX S td tv σ x e wx := by
  cases r with
  | ok a e => exact .inl ⟨a, e, rfl, h⟩
  | ex x e => exact .inr ⟨x, e, rfl, fun cls od tw' G' W' H' R xr => h cls od tw' G' σ W' H' R Keep.refl xr⟩
  | bad => exact h.elim
theorem mss_nil : PSs X [] (tMS (ct X xd xn) wx ro skipS) := PSsimp pss_nil fun D' σ H h => by
  obtain ⟨S, G, td, tv, tw, env, W, hC, nr, R, q⟩ := h
  exact q _ _ _ _ _ R Keep.refl
theorem mss_cons (h : PS X st (tMS (ct X xd xn) wx ro s1)) (k : PSs X sts (tMS (ct X xd xn) wx ro s2)) : PSs X (st :: sts) (tMS (ct X xd xn) wx ro (seqS s1 s2)) := PSsimp (pss_cons h k) fun D' σ H h => by
  obtain ⟨S, G, td, tv, tw, env, W, hC, nr, R, q⟩ := h
  refine ⟨S, G, td, tv, tw, env, W, hC, nr, R, ?_⟩
  unfold seqS at q
  cases h1 : s1 env with
  | nx e1 =>
    rw [h1] at q
    exact fun tw' G' σ' W' H' R' kp => ⟨S, G', td, tv, tw', e1, W', hC, nr, R', q.keep kp⟩
  | rt d e1 => rw [h1] at q; exact q
  | bk e1 => rw [h1] at q; exact q
  | ct e1 => rw [h1] at q; exact q
  | ex x e1 => rw [h1] at q; exact q
  | bad => rw [h1] at q; exact q.elim
theorem mss_one (h : PS X st (tMS (ct X xd xn) wx ro s1)) : PSs X [st] (tMS (ct X xd xn) wx ro s1) := PSsimp (pss_one h) fun D' σ H h => h
/-- a slot is frozen ahead of what follows -/
theorem mss_frz (i : Nat) (k : PSs X sts (tMS (ct X xd xn) wx ro s2)) : PSs X sts (tMS (ct X xd xn) wx ro (frzS i s2)) := PSsimp k fun D' σ H h => by
  obtain ⟨S, G, td, tv, tw, env, W, hC, nr, R, q⟩ := h
  unfold frzS at q
  split at q
  · obtain ⟨G', W', R', _⟩ := R.frzSlot (by assumption)
    exact ⟨S, G', td, tv, tw, _, W', hC, nr, R', q⟩
  · exact q.elim
theorem ms_frz (i : Nat) (k : PS X st (tMS (ct X xd xn) wx ro s2)) : PS X st (tMS (ct X xd xn) wx ro (frzS i s2)) := PSimp k fun D' σ H h => by
  obtain ⟨S, G, td, tv, tw, env, W, hC, nr, R, q⟩ := h
  unfold frzS at q
  split at q
  · obtain ⟨G', W', R', _⟩ := R.frzSlot (by assumption)
    exact ⟨S, G', td, tv, tw, _, W', hC, nr, R', q⟩
  · exact q.elim
theorem set1_ok {S : Sc} {td : List D} {tv : List V} {σ : L2.St} {D' : Ends} {i : Nat} {x : D} {e : Env} (h : Post S td tv ro σ wx D' (set1 i x e)) : ∃ d, putV e x = some d ∧ i < e.length ∧ ∀ tw' G' σ' W' H', RR S G' td tv tw' (e.set i (some d)) σ' W' H' → Keep ro σ σ' → D'.nx σ' H' := by
  unfold set1 at h
  split at h
  · exact h.elim
  · split at h
    · exact ⟨_, by assumption, by assumption, h⟩
    · exact h.elim
theorem ms_set {i : Nat} {x : Str} {p' : Pos} (hN : X.N.Nodup) (hi : X.N[i]? = some x) (hx : Loc X.env.scope x) (he : PE X e (tM (ct X xd xn) wx m)) (hr : (ro[i]?).getD false = false := by rfl) (hs : swapsWith e (some (.Name x p')) pos.line X.env = pure false := by rfl)
    (hf : X.fn x = true ∨ X.env.scope.names.lookup x = some .local := by first | exact .inl rfl | exact .inr rfl | assumption) : PS X (.Assign [.Name x p'] e pos) (tMS (ct X xd xn) wx ro (setS i m)) :=
  PSimp (ps_set hN hi hx he hs hf) fun D' σ H h => by
    obtain ⟨S, G, td, tv, tw, env, W, hC, nr, R, q⟩ := h
    rcases bindP q with ⟨x, e1, m1, q⟩ | ⟨x, e1, m1, q⟩
    · obtain ⟨d, hp, hl, q⟩ := set1_ok q
      refine tM_mk hC R (.inl ⟨x, e1, m1, fun v tw1 G1 W1 H1 R1 => ?_⟩)
      obtain ⟨tw2, R2, nd⟩ := R1.putV hp
      obtain ⟨tw3, W3, R3⟩ := R2.store hl nd (nr i)
      exact q _ _ _ _ _ R3 (Keep.set hr)
    · exact tM_mk hC R (.inr ⟨x, e1, m1, q⟩)
theorem ms_expr (he : PE X e (tM (ct X xd xn) wx m)) (hs : swapsWith e none pos.line X.env = pure false := by rfl) : PS X (.Expr e pos) (tMS (ct X xd xn) wx ro (dropS m)) :=
  PSimp (ps_expr he hs) fun D' σ H h => by
    obtain ⟨S, G, td, tv, tw, env, W, hC, nr, R, q⟩ := h
    rcases bindP q with ⟨x, e1, m1, q⟩ | ⟨x, e1, m1, q⟩
    · refine tM_mk hC R (.inl ⟨x, e1, m1, fun v tw1 G1 W1 H1 R1 => ?_⟩)
      obtain ⟨_, _, _, R2⟩ := R1.pop
      exact q _ _ _ _ _ R2 Keep.refl
    · exact tM_mk hC R (.inr ⟨x, e1, m1, q⟩)
theorem ms_ret (he : PE X e (tM (ct X xd xn) wx m)) : PS X (.Return (some e) pos) (tMS (ct X xd xn) wx ro (retS m)) :=
  PSimp (ps_ret he) fun D' σ H h => by
    obtain ⟨S, G, td, tv, tw, env, W, hC, nr, R, q⟩ := h
    rcases bindP q with ⟨x, e1, m1, q⟩ | ⟨x, e1, m1, q⟩
    · refine tM_mk hC R (.inl ⟨x, e1, m1, fun v tw1 G1 W1 H1 R1 => ?_⟩)
      unfold ret1 at q
      split at q
      · exact q.elim
      · obtain ⟨tw2, R2, nd⟩ := R1.putV (by assumption)
        exact q _ _ _ _ _ _ R2 Keep.refl
    · exact tM_mk hC R (.inr ⟨x, e1, m1, q⟩)
theorem ms_retN : PS X (.Return none pos) (tMS (ct X xd xn) wx ro retN) := PSimp ps_retN fun D' σ H h => by
  obtain ⟨S, G, td, tv, tw, env, W, hC, nr, R, q⟩ := h
  exact q _ _ _ _ _ _ R.pushN Keep.refl
theorem ms_if {c : Expr} {as bs : List Stmt} (hc : PT X c (tMB (ct X xd xn) wx tb)) (ha : PSs X as (tMS (ct X xd xn) wx ro s1)) (hb : PSs X bs (tMS (ct X xd xn) wx ro s2)) : PS X (.If c as bs pos) (tMS (ct X xd xn) wx ro (ifS tb s1 s2)) :=
  PSimp (ps_if hc ha hb) fun D' σ H h => by
    obtain ⟨S, G, td, tv, tw, env, W, hC, nr, R, q⟩ := h
    rcases bindP q with ⟨c, e1, m1, q⟩ | ⟨x, e1, m1, q⟩
    · refine tMB_mk hC R (.inl ⟨c, e1, m1, fun tw' G' W' H' R' => ?_⟩)
      cases c with
      | true => exact itT ⟨S, G', td, tv, tw', e1, W', hC, nr, R', q⟩
      | false => exact itF ⟨S, G', td, tv, tw', e1, W', hC, nr, R', q⟩
    · exact tMB_mk hC R (.inr ⟨x, e1, m1, q⟩)
theorem ms_pass : PS X (.Pass pos) (tMS (ct X xd xn) wx ro skipS) := PSimp ps_pass fun D' σ H h => by
  obtain ⟨S, G, td, tv, tw, env, W, hC, nr, R, q⟩ := h
  exact q _ _ _ _ _ R Keep.refl
theorem ms_break : PS X (.Break pos) (tMS (ct X xd xn) wx ro brkS) := PSimp ps_break fun D' σ H h => by
  obtain ⟨S, G, td, tv, tw, env, W, hC, nr, R, q⟩ := h
  exact q _ _ _ _ _ R Keep.refl
theorem ms_continue : PS X (.Continue pos) (tMS (ct X xd xn) wx ro cntS) := PSimp ps_continue fun D' σ H h => by
  obtain ⟨S, G, td, tv, tw, env, W, hC, nr, R, q⟩ := h
  exact q _ _ _ _ _ R Keep.refl
/-- never reached -/
theorem ms_bad : PS X st (tMS (ct X xd xn) wx ro badS) := PSimp ps_never fun D' σ H h => by
  obtain ⟨S, G, td, tv, tw, env, W, hC, nr, R, q⟩ := h
  exact q.elim
theorem mss_bad : PSs X sts (tMS (ct X xd xn) wx ro badS) := PSsimp pss_never fun D' σ H h => by
  obtain ⟨S, G, td, tv, tw, env, W, hC, nr, R, q⟩ := h
  exact q.elim
end
/-! ### targets -/
abbrev GM := D → Env → Option Env
def tMG (C : Ct) (ro : List Bool) (g : GM) : TG := fun v σ H Q => ∃ (S : Sc) (G : Hp) (d : D) (td : List D) (tv : List V) (tw : List (List Addr)) (env : Env) (W : List (List Addr)) (env' : Env),
  S.C = C ∧ NR td ∧ (∀ j, d ≠ .rf j) ∧ RR S G (d :: td) (v :: tv) tw env σ W H ∧ g d env = some env' ∧
    ∀ tw' G' σ' W' H', RR S G' td tv tw' env' σ' W' H' → Keep ro σ σ' → Q σ' H'
/-- several targets: the values are the uppermost temporaries, the first one on top -/
abbrev GsM := List D → Env → Option Env
def tMGs (C : Ct) (ro : List Bool) (g : GsM) : TGs := fun vs σ H Q => ∃ (S : Sc) (G : Hp) (ds : List D) (td : List D) (tv : List V) (tw : List (List Addr)) (env : Env) (W : List (List Addr)) (env' : Env),
  S.C = C ∧ NR (ds ++ td) ∧ vs.length = ds.length ∧ RR S G (ds ++ td) (vs ++ tv) tw env σ W H ∧ g ds env = some env' ∧
    ∀ tw' G' σ' W' H', RR S G' td tv tw' env' σ' W' H' → Keep ro σ σ' → Q σ' H'
def nameG (i : Nat) : GM := fun d env => if i < env.length then some (env.set i (some d)) else none
def nilG : GsM := fun ds env => match ds with
  | [] => some env
  | _ => none
def consG (g : GM) (r : GsM) : GsM := fun ds env => match ds with
  | [] => none
  | d :: ds => match g d env with
    | none => none
    | some e => r ds e
/-- what can be unpacked: a tuple or a list -/
def unpI : D → Option (List D)
  | .tup ds => some ds
  | .ptp ds => some ds
  | .lst ds => some ds
  | .own ds => if fzL ds = true then some ds else none
  | _ => none
theorem deref_unp {env : Env} {d : D} {ds : List D} (h : unpI d = some ds) : deref env d = some d := by
  cases d <;> first | rfl | cases h
theorem O.unpI {K : PySem.W.Frag} {G H : Hp} {d : D} {v : V} {w : List Addr} {ds : List D} (e : Sub G H) (h : O K G H d v w) (q : Mx.unpI d = some ds) : ∃ a vs, v = .ref a ∧ (SqT K H a vs ∨ SqL K H a vs) ∧ FL K G ds vs := by
  have key : Mx.tupI d = some ds ∨ Mx.lstI d = some ds := by
    cases d <;> first | exact .inl q | exact .inr q | cases q
  rcases key with k | k
  · obtain ⟨a, vs, h1, h2, h3⟩ := h.tupI e k
    exact ⟨a, vs, h1, .inl h2, h3⟩
  · obtain ⟨a, vs, h1, h2, h3⟩ := h.lstI e k
    exact ⟨a, vs, h1, .inr h2, h3⟩
def tupG (n : Nat) (g : GsM) : GM := fun d env => match unpI d with
  | some ds => if ds.length = n then g ds env else none
  | _ => none
theorem PGimp {X : Cx} {e : Expr} {t t' : TG} (h : PG X e t) (i : ∀ v σ H Q, t' v σ H Q → t v σ H Q) : PG X e t' := ⟨fun pins s σ H v u Q I r q => h.run pins s σ H v u Q I r (i v σ H Q q)⟩
theorem PGsimp {X : Cx} {e : List Expr} {t t' : TGs} (h : PGs X e t) (i : ∀ v σ H Q, t' v σ H Q → t v σ H Q) : PGs X e t' := ⟨fun pins s σ H v u Q I r q => h.run pins s σ H v u Q I r (i v σ H Q q)⟩
section
variable {X : Cx} {xd : Option Addr} {xn : Option Xn} {wx : WX} {e : Expr} {es : List Expr} {pos : Pos} {ro : List Bool} {g : GM} {gs : GsM}
theorem mg_name {i : Nat} {x : Str} (hN : X.N.Nodup) (hi : X.N[i]? = some x) (hx : Loc X.env.scope x) (hr : (ro[i]?).getD false = false := by rfl) (hf : X.fn x = true ∨ X.env.scope.names.lookup x = some .local := by first | exact .inl rfl | exact .inr rfl | assumption) : PG X (.Name x pos) (tMG (ct X xd xn) ro (nameG i)) :=
  PGimp (pg_name hN hi hx hf) fun v σ H Q h => by
    obtain ⟨S, G, d, td, tv, tw, env, W, env', hC, nr, nd, R, hm, q⟩ := h
    unfold nameG at hm
    split at hm
    · cases hm
      obtain ⟨tw3, W3, R3⟩ := R.store (by assumption) nd (nr i)
      exact q _ _ _ _ _ R3 (Keep.set hr)
    · cases hm
theorem mgs_nil : PGs X [] (tMGs (ct X xd xn) ro nilG) := PGsimp pgs_nil fun vs σ H Q h => by
  obtain ⟨S, G, ds, td, tv, tw, env, W, env', hC, nr, hl, R, hm, q⟩ := h
  unfold nilG at hm
  split at hm
  · cases hm
    have : vs = [] := List.eq_nil_of_length_eq_zero hl
    subst this
    exact ⟨rfl, q _ _ _ _ _ R Keep.refl⟩
  · cases hm
theorem mgs_cons (h1 : PG X e (tMG (ct X xd xn) ro g)) (h2 : PGs X es (tMGs (ct X xd xn) ro gs)) (hs : (assignEach (e :: es) X.env).map (·.2) = assign e X.env :: (assignEach es X.env).map (·.2) := by rfl) : PGs X (e :: es) (tMGs (ct X xd xn) ro (consG g gs)) :=
  PGsimp (pgs_cons h1 h2 hs) fun vs σ H Q h => by
    obtain ⟨S, G, ds, td, tv, tw, env, W, env', hC, nr, hl, R, hm, q⟩ := h
    unfold consG at hm
    split at hm
    · cases hm
    · split at hm
      · cases hm
      · rename_i d ds _ e1 hg
        cases vs with
        | nil => cases hl
        | cons v vs =>
          have nr2 : NR (ds ++ td) := fun i hi => nr i (List.mem_cons_of_mem _ hi)
          refine ⟨v, vs, rfl, S, G, d, ds ++ td, vs ++ tv, tw, env, W, e1, hC, nr2, fun j z => nr j (by rw [z]; exact List.mem_cons_self ..), R, hg, fun tw' G' σ' W' H' R' kp => ?_⟩
          exact ⟨S, G', ds, td, tv, tw', e1, W', env', hC, nr2, by simpa using hl, R', hm, fun tw2 G2 σ2 W2 H2 R2 kp2 => q _ _ _ _ _ R2 (kp.trans kp2)⟩
theorem FL.nr {K : PySem.W.Frag} {G : Hp} : ∀ {ds : List D} {vs : List V}, FL K G ds vs → NR ds
  | [], _, _, i, h => nomatch h
  | d :: ds, vs, h, i, hi => by
    simp only [FL] at h
    obtain ⟨v, ws, rfl, f1, f2⟩ := h
    rcases List.mem_cons.mp hi with e | hi
    · rw [← e] at f1; simp only [F] at f1
    · exact FL.nr f2 i hi
theorem RR.pushL {S : Sc} {G H : Hp} {td : List D} {tv : List V} {tw : List (List Addr)} {env : Env} {σ : L2.St} {W : List (List Addr)} (R : RR S G td tv tw env σ W H) : ∀ {ds : List D} {vs : List V}, FL S.K G ds vs → ∃ tw', RR S G (ds ++ td) (vs ++ tv) tw' env σ W H
  | [], vs, h => by
    simp only [FL] at h
    subst h
    exact ⟨tw, R⟩
  | d :: ds, vs, h => by
    simp only [FL] at h
    obtain ⟨v, ws, rfl, f1, f2⟩ := h
    obtain ⟨tw', R'⟩ := R.pushL f2
    exact ⟨_, R'.push f1⟩
theorem pg_seq {es : List Expr} {k : Nat} {t : TGs} {n : Nat} (hc : X.calm = true) (h : PGs X es t) (hn : (assignEach es X.env).length = n := by rfl) (hst : (assignEach es X.env).findIdx? (·.1) = none := by rfl) : PG X (.Tuple es k pos) (fun v σ H Q => gTup X.K n t v σ H Q ∨ gLst X.K n t v σ H Q) :=
  ⟨fun pins s σ H v u Q I r q => q.elim (fun q => (pg_tup hc h hn hst).run pins s σ H v u Q I r q) (fun q => (pg_lst hc h hn hst).run pins s σ H v u Q I r q)⟩
theorem mg_tup {es : List Expr} {k : Nat} {n : Nat} (hc : X.calm = true) (h : PGs X es (tMGs (ct X xd xn) ro gs)) (hn : (assignEach es X.env).length = n := by rfl) (hst : (assignEach es X.env).findIdx? (·.1) = none := by rfl) : PG X (.Tuple es k pos) (tMG (ct X xd xn) ro (tupG n gs)) :=
  PGimp (pg_seq hc h hn hst) fun v σ H Q h => by
    obtain ⟨S, G, d, td, tv, tw, env, W, env', hC, nr, nd, R, hm, q⟩ := h
    unfold tupG at hm
    split at hm
    · rename_i ds hds
      split at hm
      · rename_i hl
        obtain ⟨w, o⟩ := R.look (deref_unp hds)
        obtain ⟨_, tw2, _, R2⟩ := R.pop
        obtain ⟨a, vs, rfl, sq, fl⟩ := o.unpI R2.sub hds
        obtain ⟨tw3, R3⟩ := R2.pushL fl
        have hK : S.K = X.K := congrArg Ct.K hC
        have kk : tMGs (ct X xd xn) ro gs vs σ H Q := ⟨S, G, ds, td, tv, tw3, env, W, env', hC, fun i hi => by
          rcases List.mem_append.mp hi with z | z
          · exact fl.nr i z
          · exact nr i z, fl.length.symm, R3, hm, q⟩
        rcases sq with sq | sq
        · exact .inl ⟨a, vs, rfl, hK ▸ sq, by rw [← fl.length]; exact hl, kk⟩
        · exact .inr ⟨a, vs, rfl, hK ▸ sq, by rw [← fl.length]; exact hl, kk⟩
      · cases hm
    · cases hm
/-- target = value -/
def asg1 (g : GM) (x : D) (e : Env) : Out := match putV e x with
  | none => .bad
  | some d => match g d e with
    | none => .bad
    | some e' => .nx e'
def asgS (m : EM) (g : GM) : SM := fun env => bindS (m env) (asg1 g)
theorem asg1_ok {S : Sc} {td : List D} {tv : List V} {σ : L2.St} {D' : Ends} {x : D} {e : Env} (h : Post S td tv ro σ wx D' (asg1 g x e)) : ∃ d e', putV e x = some d ∧ g d e = some e' ∧ ∀ tw' G' σ' W' H', RR S G' td tv tw' e' σ' W' H' → Keep ro σ σ' → D'.nx σ' H' := by
  unfold asg1 at h
  split at h
  · exact h.elim
  · split at h
    · exact h.elim
    · exact ⟨_, _, by assumption, by assumption, h⟩
theorem ms_asg {tg : Expr} {m : EM} (he : PE X e (tM (ct X xd xn) wx m)) (hg : PG X tg (tMG (ct X xd xn) ro g)) (hs : swapsWithSole [tg] e pos.line X.env = pure false := by rfl) (hw : swappedStores [tg] e X.env = pure none := by rfl)
    (h1 : (assignEach [tg] X.env).map (·.2) = [assign tg X.env] := by rfl) : PS X (.Assign [tg] e pos) (tMS (ct X xd xn) wx ro (asgS m g)) :=
  PSimp (ps_asg he hg hs hw h1) fun D' σ H h => by
    obtain ⟨S, G, td, tv, tw, env, W, hC, nr, R, q⟩ := h
    rcases bindP q with ⟨x, e1, m1, q⟩ | ⟨x, e1, m1, q⟩
    · obtain ⟨d, e', hp, hg', q⟩ := asg1_ok q
      refine tM_mk hC R (.inl ⟨x, e1, m1, fun v tw1 G1 W1 H1 R1 => ?_⟩)
      obtain ⟨tw2, R2, nd⟩ := R1.putV hp
      exact ⟨S, G1, d, td, tv, tw2, e1, W1, e', hC, nr, nd, R2, hg', q⟩
    · exact tM_mk hC R (.inr ⟨x, e1, m1, q⟩)
/-- a, b = x, y; three of each -/
def par2 (i j : Nat) (ds : List D) (e : Env) : Out := match ds with
  | [x, y] => match putV e x with
    | none => .bad
    | some d => match putV e y with
      | none => .bad
      | some d' => if i < e.length ∧ j < e.length then .nx ((e.set i (some d)).set j (some d')) else .bad
  | _ => .bad
def par3 (i j k : Nat) (ds : List D) (e : Env) : Out := match ds with
  | [x, y, z] => match putV e x with
    | none => .bad
    | some d => match putV e y with
      | none => .bad
      | some d' => match putV e z with
        | none => .bad
        | some d'' => if i < e.length ∧ j < e.length ∧ k < e.length then .nx (((e.set i (some d)).set j (some d')).set k (some d'')) else .bad
  | _ => .bad
def par2S (i j : Nat) (m : AM) : SM := fun env => bindS (m env) (par2 i j)
def par3S (i j k : Nat) (m : AM) : SM := fun env => bindS (m env) (par3 i j k)
theorem RR.tw2 {S : Sc} {G H : Hp} {td : List D} {tv : List V} {tw : List (List Addr)} {env : Env} {σ : L2.St} {W : List (List Addr)} {d e : D} {v u : V} (R : RR S G (d :: e :: td) (v :: u :: tv) tw env σ W H) : ∃ w y tw', tw = w :: y :: tw' := by
  obtain ⟨w, tw', rfl, R2⟩ := R.pop
  obtain ⟨y, tw2, rfl, _⟩ := R2.pop
  exact ⟨w, y, tw2, rfl⟩
theorem RR.swap' {S : Sc} {G H : Hp} {td : List D} {tv : List V} {tw : List (List Addr)} {env : Env} {σ : L2.St} {W : List (List Addr)} {d e : D} {v u : V} (R : RR S G (d :: e :: td) (v :: u :: tv) tw env σ W H) : ∃ tw', RR S G (e :: d :: td) (u :: v :: tv) tw' env σ W H := by
  obtain ⟨w, y, tw', rfl⟩ := R.tw2
  exact ⟨_, R.swap⟩
theorem two_of {vs : List V} (h : vs.length = 2) : ∃ v w, vs = [v, w] := by
  match vs, h with
  | [v, w], _ => exact ⟨v, w, rfl⟩
theorem three_of {vs : List V} (h : vs.length = 3) : ∃ v w u, vs = [v, w, u] := by
  match vs, h with
  | [v, w, u], _ => exact ⟨v, w, u, rfl⟩
theorem ms_par2 {i j : Nat} {x y : Str} {a b : Expr} {ma : AM} {px py pt : Pos} {kt k2 pt2} (hc : X.calm = true) (hN : X.N.Nodup) (hi : X.N[i]? = some x) (hj : X.N[j]? = some y) (hij : i ≠ j)
    (hx : X.env.scope.names.lookup x = some .local) (hy : X.env.scope.names.lookup y = some .local) (ha : PA X [a, b] (tMA (ct X xd xn) wx ma))
    (hw : swappedStores [.Tuple [.Name x px, .Name y py] kt pt] (.Tuple [a, b] k2 pt2) X.env = pure (some [x, y])) (hr : (ro[i]?).getD false = false := by rfl) (hr2 : (ro[j]?).getD false = false := by rfl)
    (hs : swapsWithSole [.Tuple [.Name x px, .Name y py] kt pt] (.Tuple [a, b] k2 pt2) pos.line X.env = pure false := by rfl) :
    PS X (.Assign [.Tuple [.Name x px, .Name y py] kt pt] (.Tuple [a, b] k2 pt2) pos) (tMS (ct X xd xn) wx ro (par2S i j ma)) :=
  PSimp (ps_par hc hN hi hj hij hx hy ha hw hs) fun D' σ H h => by
    obtain ⟨S, G, td, tv, tw, env, W, hC, nr, R, q⟩ := h
    rcases bindP q with ⟨ds, e1, m1, q⟩ | ⟨x, e1, m1, q⟩
    · unfold par2 at q
      split at q
      · rename_i x y
        split at q
        · exact q.elim
        · rename_i d p1
          split at q
          · exact q.elim
          · rename_i d' p2
            split at q
            · rename_i hl
              refine tMA_mk hC R (.inl ⟨_, e1, m1, fun vs tw1 G1 W1 H1 hl1 R1 => ?_⟩)
              obtain ⟨v, u, rfl⟩ := two_of hl1
              refine ⟨v, u, rfl, ?_⟩
              obtain ⟨_, R2, n2⟩ := RR.putV (R := R1) p2
              obtain ⟨_, R3⟩ := R2.swap'
              obtain ⟨_, R4, n4⟩ := RR.putV (R := R3) p1
              obtain ⟨_, _, R5⟩ := R4.store hl.1 n4 (fun z => (List.mem_cons.mp z).elim (fun e => n2 _ e.symm) (nr i))
              obtain ⟨_, _, R6⟩ := R5.store (i := j) (by simpa using hl.2) n2 (nr j)
              exact q _ _ _ _ _ R6 ((Keep.set hr).trans (Keep.set hr2))
            · exact q.elim
      · exact q.elim
    · exact tMA_mk hC R (.inr ⟨x, e1, m1, q⟩)
theorem ms_par3 {i j l : Nat} {x y z : Str} {a b c : Expr} {ma : AM} {px py pz pt : Pos} {kt k2 pt2} (hc : X.calm = true) (hN : X.N.Nodup) (hi : X.N[i]? = some x) (hj : X.N[j]? = some y) (hl : X.N[l]? = some z) (hij : i ≠ j) (hil : i ≠ l) (hjl : j ≠ l)
    (hx : X.env.scope.names.lookup x = some .local) (hy : X.env.scope.names.lookup y = some .local) (hz : X.env.scope.names.lookup z = some .local) (ha : PA X [a, b, c] (tMA (ct X xd xn) wx ma))
    (hw : swappedStores [.Tuple [.Name x px, .Name y py, .Name z pz] kt pt] (.Tuple [a, b, c] k2 pt2) X.env = pure (some [x, y, z])) (hr : (ro[i]?).getD false = false := by rfl) (hr2 : (ro[j]?).getD false = false := by rfl) (hr3 : (ro[l]?).getD false = false := by rfl)
    (hs : swapsWithSole [.Tuple [.Name x px, .Name y py, .Name z pz] kt pt] (.Tuple [a, b, c] k2 pt2) pos.line X.env = pure false := by rfl) :
    PS X (.Assign [.Tuple [.Name x px, .Name y py, .Name z pz] kt pt] (.Tuple [a, b, c] k2 pt2) pos) (tMS (ct X xd xn) wx ro (par3S i j l ma)) :=
  PSimp (ps_par3 hc hN hi hj hl hij hil hjl hx hy hz ha hw hs) fun D' σ H h => by
    obtain ⟨S, G, td, tv, tw, env, W, hC, nr, R, q⟩ := h
    rcases bindP q with ⟨ds, e1, m1, q⟩ | ⟨x, e1, m1, q⟩
    · unfold par3 at q
      split at q
      · rename_i x y z
        split at q
        · exact q.elim
        · rename_i d p1
          split at q
          · exact q.elim
          · rename_i d' p2
            split at q
            · exact q.elim
            · rename_i d'' p3
              split at q
              · rename_i hl
                refine tMA_mk hC R (.inl ⟨_, e1, m1, fun vs tw1 G1 W1 H1 hl1 R1 => ?_⟩)
                obtain ⟨v, u, w, rfl⟩ := three_of hl1
                refine ⟨v, u, w, rfl, ?_⟩
                obtain ⟨_, R2, n2⟩ := RR.putV (R := R1) p3
                obtain ⟨_, R3⟩ := R2.swap'
                obtain ⟨_, R4, n4⟩ := RR.putV (R := R3) p2
                -- d' d'' x
                have R5 : ∃ tw', RR S G1 (x :: d' :: d'' :: td) (v :: u :: w :: tv) tw' e1 σ W1 H1 := R4.third
                obtain ⟨_, R5⟩ := R5
                obtain ⟨_, R6, n6⟩ := RR.putV (R := R5) p1
                obtain ⟨_, _, R7⟩ := R6.store hl.1 n6 (fun z => (List.mem_cons.mp z).elim (fun e => n4 _ e.symm) fun z => (List.mem_cons.mp z).elim (fun e => n2 _ e.symm) (nr i))
                obtain ⟨_, _, R8⟩ := R7.store (i := j) (by simpa using hl.2.1) n4 (fun z => (List.mem_cons.mp z).elim (fun e => n2 _ e.symm) (nr j))
                obtain ⟨_, _, R9⟩ := R8.store (i := l) (by simpa using hl.2.2) n2 (nr l)
                exact q _ _ _ _ _ R9 (((Keep.set hr).trans (Keep.set hr2)).trans (Keep.set hr3))
              · exact q.elim
      · exact q.elim
    · exact tMA_mk hC R (.inr ⟨x, e1, m1, q⟩)
end
end Mx
set_option Elab.async false
set_option linter.all false
set_option maxRecDepth 100000
set_option maxHeartbeats 1000000
/-! Mx6: a def's promise by its mirror, the call -/
namespace Mx
open PySem PySem.Spec L2 PyProof.Rows
/-! ### what a def's mirror gives -/
/-- the value and the parameters behind (those that it may change); an exception -/
inductive Fr where
  | ok (r : D) (ds : List D)
  | ex (x : Xn)
  | bad
abbrev FM := List D → Fr
def PostF (S : Sc) (vs : List V) (n : Nat) (Q : VK) (E : XK) : Fr → Prop
  | .ok r ds => ∀ vr tw G' W' H', (∀ j, r ≠ .rf j) → RR S G' [r] [vr] tw (ds.map some) (vs.map some) W' H' → Q vr H'
  | .ex x => ∀ cls od tw G' es σ W' H', RR S G' [] [] tw es σ W' H' → XR S.K G' x cls od → E cls od H'
  | .bad => False
def spM (K : PySem.W.Frag) (n : Nat) (m : FM) : Sp := fun vs H Q E => ∃ (S : Sc) (ds : List D) (W : List (List Addr)), S.C = ⟨K, none, none⟩ ∧ S.H0 = H ∧ ds.length = n ∧
  RR S S.B [] [] [] (ds.map some) (vs.map some) W H ∧ PostF S vs n Q E (m ds)
theorem spM.len {K : PySem.W.Frag} {n : Nat} {m : FM} {vs : List V} {H : Hp} {Q : VK} {E : XK} (h : spM K n m vs H Q E) : vs.length = n := by
  obtain ⟨S, ds, W, _, _, hl, R, _⟩ := h
  have q := R.sl.len.1
  simp only [List.length_map] at q
  omega
/-- the parameters behind the body: the changed ones as they are, the others as they were -/
def finish : List Bool → List D → Env → Option (List D)
  | _, [], _ => some []
  | true :: ro, _ :: ds, some d :: e => (finish ro ds e).map (d :: ·)
  | false :: ro, d :: ds, _ :: e => if d.fz = true then (finish ro ds e).map (d :: ·) else none
  | [], d :: ds, _ :: e => if d.fz = true then (finish [] ds e).map (d :: ·) else none
  | _, _, _ => none
def fin (ro : List Bool) (ds : List D) (r : D) (e : Env) : Fr := match r with
  | .rf _ => .bad
  | r => match finish ro ds e with
    | none => .bad
    | some ds' => .ok r ds'
/-- a def by its body: k other names than parameters -/
def fnM (k : Nat) (ro : List Bool) (b : SM) : FM := fun ds => match b (ds.map some ++ List.replicate k none) with
  | .nx e => fin ro ds .non e
  | .rt d e => fin ro ds d e
  | .ex x _ => .ex x
  | _ => .bad
section
variable {K : PySem.W.Frag} {G G' H H' : Hp}
theorem Sl.nones : ∀ {env : Env} {σ : L2.St} {W : List (List Addr)} (k : Nat), Sl K G H env σ W → Sl K G H (env ++ List.replicate k none) (σ ++ List.replicate k none) (W ++ List.replicate k [])
  | [], σ, W, k, h => by
    simp only [Sl] at h
    obtain ⟨rfl, rfl⟩ := h
    simp only [List.nil_append]
    induction k with
    | zero => simp [Sl]
    | succ k ih =>
      simp only [List.replicate_succ, Sl]
      exact ⟨_, _, _, rfl, rfl, ih⟩
  | none :: env, σ, W, k, h => by
    simp only [Sl] at h
    obtain ⟨x, σ', W', rfl, rfl, h1⟩ := h
    simp only [List.cons_append, Sl]
    exact ⟨_, _, _, rfl, rfl, h1.nones k⟩
  | some d :: env, σ, W, k, h => by
    simp only [Sl] at h
    obtain ⟨v, σ', w, W', rfl, rfl, h0, h1⟩ := h
    simp only [List.cons_append, Sl]
    exact ⟨_, _, _, _, rfl, rfl, h0, h1.nones k⟩
theorem flatten_nones (W : List (List Addr)) (k : Nat) : (W ++ List.replicate k []).flatten = W.flatten := by
  rw [List.flatten_append]
  have : (List.replicate k ([] : List Addr)).flatten = [] := by
    induction k with
    | zero => rfl
    | succ k ih => simp [List.replicate_succ, ih]
  rw [this, List.append_nil]
theorem Sl.finish (e : Sub G G') : ∀ {ro : List Bool} {ds ds' : List D} {env : Env} {vs : List V} {σ : L2.St} {W0 W : List (List Addr)}, Mx.finish ro ds env = some ds' → Sl K G H (ds.map some) (vs.map some) W0 → Sl K G' H' env σ W →
    (∀ i, ro[i]? = some true → i < vs.length → σ[i]? = (vs.map some)[i]?) → ∃ W', Sl K G' H' (ds'.map some) (vs.map some) W' ∧ W'.flatten.Sublist W.flatten ∧ ds'.length = ds.length := by
  intro ro ds
  induction ds generalizing ro with
  | nil =>
    intro ds' env vs σ W0 W hf h0 h1 hk
    simp only [Mx.finish, Option.some.injEq] at hf
    subst hf
    simp only [List.map_nil, Sl] at h0 ⊢
    exact ⟨[], ⟨h0.1, rfl⟩, by simp⟩
  | cons d ds ih =>
    intro ds' env vs σ W0 W hf h0 h1 hk
    simp only [List.map_cons, Sl] at h0
    obtain ⟨v, σ', w, W', ev, rfl, o0, r0⟩ := h0
    cases vs with
    | nil => cases ev
    | cons v0 vs =>
      simp only [List.map_cons, List.cons.injEq, Option.some.injEq] at ev
      obtain ⟨rfl, rfl⟩ := ev
      -- the head kept as it was
      have keepCase : ∀ (ro' : List Bool) (x : Option D) (env' : Env), d.fz = true → (Mx.finish ro' ds env').map (d :: ·) = some ds' → env = x :: env' → (∀ i, ro'[i]? = some true → ro[i + 1]? = some true) →
          ∃ W', Sl K G' H' (ds'.map some) ((v0 :: vs).map some) W' ∧ W'.flatten.Sublist W.flatten ∧ ds'.length = (d :: ds).length := by
        intro ro' x env' hz hm he hro
        obtain ⟨es, e1, rfl⟩ := Option.map_eq_some_iff.mp hm
        subst he
        have tail : ∃ y σ2 w2 W2, σ = y :: σ2 ∧ W = w2 :: W2 ∧ Sl K G' H' env' σ2 W2 := by
          cases x with
          | none =>
            simp only [Sl] at h1
            obtain ⟨y, σ2, W2, e2, e3, h2⟩ := h1
            exact ⟨y, σ2, [], W2, e2, e3, h2⟩
          | some x =>
            simp only [Sl] at h1
            obtain ⟨y, σ2, w2, W2, e2, e3, _, h2⟩ := h1
            exact ⟨_, σ2, w2, W2, e2, e3, h2⟩
        obtain ⟨y, σ2, w2, W2, rfl, rfl, h2⟩ := tail
        obtain ⟨W3, h3, sb, hl⟩ := ih e1 r0 h2 fun i hi hlt => by
          have q := hk (i + 1) (hro i hi) (by simpa using hlt)
          simpa using q
        refine ⟨[] :: W3, ?_, ?_, by simp [hl]⟩
        · simp only [List.map_cons, Sl]
          exact ⟨v0, _, [], W3, rfl, rfl, (O.of_fz hz).mpr ⟨rfl, F.mono e _ _ ((O.of_fz hz).mp o0).2⟩, h3⟩
        · simp only [List.flatten_cons, List.nil_append]
          exact sb.trans (List.sublist_append_right _ _)
      cases ro with
      | nil =>
        cases env with
        | nil => simp only [Mx.finish] at hf; cases hf
        | cons x env' =>
          simp only [Mx.finish] at hf
          split at hf
          · exact keepCase [] x env' (by assumption) hf rfl fun i hi => by simp at hi
          · cases hf
      | cons b ro =>
        cases b with
        | false =>
          cases env with
          | nil => simp only [Mx.finish] at hf; cases hf
          | cons x env' =>
            simp only [Mx.finish] at hf
            split at hf
            · exact keepCase ro x env' (by assumption) hf rfl fun i hi => by simpa using hi
            · cases hf
        | true =>
          cases env with
          | nil => simp only [Mx.finish] at hf; cases hf
          | cons x env' =>
            cases x with
            | none => simp only [Mx.finish] at hf; cases hf
            | some x =>
              simp only [Mx.finish] at hf
              obtain ⟨es, e1, rfl⟩ := Option.map_eq_some_iff.mp hf
              simp only [Sl] at h1
              obtain ⟨y, σ2, w2, W2, rfl, rfl, o1, h2⟩ := h1
              obtain ⟨W3, h3, sb, hl⟩ := ih e1 r0 h2 fun i hi hlt => by
                have q := hk (i + 1) (by simpa using hi) (by simpa using hlt)
                simpa using q
              have ey : y = v0 := by
                have q := hk 0 (by simp) (by simp)
                simpa using q
              subst ey
              refine ⟨w2 :: W3, ?_, ?_, by simp [hl]⟩
              · simp only [List.map_cons, Sl]
                exact ⟨y, _, w2, W3, rfl, rfl, o1, h3⟩
              · simp only [List.flatten_cons]
                exact sb.append_left _
end
theorem RR.done {S : Sc} {G G' H H' : Hp} {vs : List V} {ds ds' : List D} {W0 W : List (List Addr)} {env : Env} {σ : L2.St} {ro : List Bool} {td : List D} {tv : List V} {tw : List (List Addr)} (R0 : RR S G [] [] [] (ds.map some) (vs.map some) W0 H) (hb : G = S.B)
    (R : RR S G' td tv tw env σ W H') (hf : finish ro ds env = some ds') (hk : ∀ i, ro[i]? = some true → i < vs.length → σ[i]? = (vs.map some)[i]?) (nr : NR td) : ∃ W', RR S G' td tv tw (ds'.map some) (vs.map some) W' H' ∧ ds'.length = ds.length := by
  obtain ⟨W', sl, sb, hl⟩ := Sl.finish (hb ▸ R.base) hf R0.sl R.sl hk
  have sub : ∀ a, a ∈ tw.flatten ++ W'.flatten → a ∈ tw.flatten ++ W.flatten := fun a ha => by
    rcases List.mem_append.mp ha with z | z
    · exact List.mem_append_left _ z
    · exact List.mem_append_right _ (sb.subset z)
  exact ⟨W', ⟨R.tl.slots fun i hi => absurd hi (nr i), sl, R.nd.sublist (sb.append_left _), fun a ha => R.own a (sub a ha), fun a ha => R.fp a (sub a ha), R.sub, R.base, R.frame, R.dom, R.gdom, R.gx⟩, hl⟩
/-! ### the promise of a def -/
/-- gd: it may ask that nothing around it is being shown by repr -/
structure FnOg (gd : Bool) (P : Program) (w : World) (K : PySem.W.Frag) (mg : Str → Option Value) (base : Heap) (k : Nat) (f : Addr) (fd : FuncData) (ps : List Str) (sp : Sp) : Prop where
  len : ∀ vs H Q E, sp vs H Q E → vs.length = ps.length
  run : ∀ (A : Around) (outer : List PySem.Env) (s : Shared) (H : Hp) (args : Args) (us : List Value) (vs : List V) (Q : VK) (E : XK), Room k A → (gd = true → A.guards = some []) → L2.Env0 P w K mg base A outer s H → BindsTo s fd args (ps.zip us) → Vals vs us → sp vs H Q E →
    codeAny (model P w) A (.call (.ref f) args) (CR (L2.CX P w) outer P w H s Q E) s
section
variable {P : Program} {w : World} {K : PySem.W.Frag} {mg : Str → Option Value} {base : Heap} {k n : Nat} {f : Addr} {fd : FuncData} {ps N : List Str} {gd : Bool}
theorem FnOg.mono {j : Nat} {sp : Sp} (F : FnOg gd P w K mg base j f fd ps sp) (h : j ≤ k) : FnOg gd P w K mg base k f fd ps sp := ⟨F.len, fun A outer s H args us vs Q E hr => F.run A outer s H args us vs Q E (hr.mono h)⟩
/-- behind the entry: the body's term keeps the promise by the mirror -/
theorem body_ok {X : Cx} {ro : List Bool} {b : SM} {body : List Stmt} {N : List Str} {n : Nat} {vs : List V} {H : Hp} {Q : VK} {E : XK} (hN : X.N = N) (hb : PSs X body (tMS (ct X none none) (fun cls d _ H => E cls d H) ro b)) (hl : vs.length = n) (hsp : spM X.K n (fnM (N.length - n) ro b) vs H Q E) :
    ∃ t, PSs X body t ∧ t { nx := fun _ H' => Q .non H', rt := Q } (L2.start N vs) H := by
  refine ⟨_, hb, ?_⟩
  obtain ⟨Sc1, ds, W, hC, hH, hdl, R, post⟩ := hsp
  have hNs : L2.start N vs = vs.map some ++ List.replicate (N.length - n) none := by unfold L2.start; rw [hl]
  have R1 : RR Sc1 Sc1.B [] [] [] (ds.map some ++ List.replicate (N.length - n) none) (L2.start N vs) (W ++ List.replicate (N.length - n) []) H := by
    refine ⟨by simp [Tl], by rw [hNs]; exact R.sl.nones _, ?_, ?_, ?_, R.sub, R.base, R.frame, R.dom, R.gdom, R.gx⟩
    · rw [flatten_nones]; exact R.nd
    · rw [flatten_nones]; exact R.own
    · rw [flatten_nones]; exact R.fp
  have keeps : ∀ {σ' : L2.St}, Keep ro (L2.start N vs) σ' → ∀ i, ro[i]? = some true → i < vs.length → σ'[i]? = (vs.map some)[i]? := fun {σ'} kp i hi hlt => by
    rw [kp i hi, hNs, List.getElem?_append_left (by simpa using hlt)]
  refine ⟨Sc1, Sc1.B, [], [], [], _, _, hC, fun _ z => (by cases z), R1, ?_⟩
  unfold fnM at post
  have give : ∀ {r : D} {e : Env}, PostF Sc1 vs n Q E (fin ro ds r e) → ∀ vr tw G' σ' W' H', RR Sc1 G' [r] [vr] tw e σ' W' H' → Keep ro (L2.start N vs) σ' → Q vr H' := by
    intro r e h vr tw G' σ' W' H' R' kp
    unfold fin at h
    split at h
    · exact h.elim
    · rename_i hne
      split at h
      · exact h.elim
      · have q := h
        have nr : NR [r] := fun j hj => by
          have e1 := List.mem_singleton.mp hj
          exact hne j e1.symm
        obtain ⟨W2, R2, _⟩ := RR.done R rfl R' (by assumption) (keeps kp) nr
        exact q vr tw G' W2 H' (fun j e1 => hne j e1) R2
  cases hb2 : b (ds.map some ++ List.replicate (N.length - n) none) with
  | nx e =>
    rw [hb2] at post
    exact fun tw' G' σ' W' H' R' kp => give post _ _ _ _ _ _ R'.pushN kp
  | rt d e =>
    rw [hb2] at post
    exact fun v tw' G' σ' W' H' R' kp => give post _ _ _ _ _ _ R' kp
  | bk e => rw [hb2] at post; exact post.elim
  | ct e => rw [hb2] at post; exact post.elim
  | ex x e =>
    rw [hb2] at post
    exact fun cls od tw' G' σ' W' H' R' kp xr => post cls od tw' G' _ σ' W' H' R' xr
  | bad => rw [hb2] at post; exact post.elim
/-- THE RULE: from the body's term to the promise by the mirror -/
theorem fnog {x qual : Str} {params : Arguments} {body : List Stmt} {scope : Scope} {dvs : List V} {kws : List (Str × V)} {ro : List Bool} {b : SM} (Fd : FunD K x qual params body scope dvs kws f fd) (S : FnScope N ps scope) (hn : ps.length = n)
    (hbody : ∀ (cdv : Value) (A : Around) (outer : List PySem.Env) (s : Shared) (H : Hp) (E : XK), Room k (A.deeper (envOfC qual scope s.heap.objs.size f cdv)) → (gd = true → A.guards = some []) →
      PSs (cxOf (L2.CX P w) P w K mg base N qual scope f cdv A outer s H E) body (tMS (ct (cxOf (L2.CX P w) P w K mg base N qual scope f cdv A outer s H E) none none) (fun cls d _ H => E cls d H) ro b)) :
    FnOg gd P w K mg base (k + 1) f fd ps (spM K n (fnM (N.length - n) ro b)) := by
  obtain ⟨oc, od, dV, kV, doc, pm, an, cdv, ct', osl, rfl, lk, hcd, _, _⟩ := Fd.ex
  refine ⟨fun vs H Q E h => h.len.trans hn.symm, fun A outer s H args us vs Q E hr hg e0 hb r hsp => ?_⟩
  have hl : vs.length = ps.length := hsp.len.trans hn.symm
  refine StX.run_bnd (G := fun xs H2 => xs = vs ∧ H2 = H) lk hcd S hr e0 (fun A' Ex Q' h => hb _ _ _ _ (h s H vs us e0 Un.refl rfl (fun _ _ z => z) r hl ⟨rfl, rfl⟩)) fun s2 H2 vs2 g hr2 => ?_
  obtain ⟨rfl, rfl⟩ := g
  exact body_ok rfl (hbody cdv A outer s2 H2 E hr2 hg) (hl.trans hn) hsp
end
end Mx
set_option Elab.async false
set_option linter.all false
set_option maxRecDepth 100000
set_option maxHeartbeats 1000000
/-! Mx7: the call: arguments into the callee's state, and back -/
namespace Mx
open PySem PySem.Spec L2 PyProof.Rows
theorem Sl.of_Tl {K : PySem.W.Frag} {G H : Hp} {σ : L2.St} : ∀ {ds : List D} {vs : List V} {ws : List (List Addr)}, Tl K G H σ ds vs ws → NR ds → Sl K G H (ds.map some) (vs.map some) ws
  | [], vs, ws, h, _ => by
    simp only [Tl] at h
    obtain ⟨rfl, rfl⟩ := h
    simp [Sl]
  | d :: ds, vs, ws, h, nr => by
    simp only [Tl] at h
    obtain ⟨v, us, w, xs, rfl, rfl, h1, h2⟩ := h
    simp only [List.map_cons, Sl]
    refine ⟨v, _, w, xs, rfl, rfl, ?_, Sl.of_Tl h2 fun i hi => nr i (List.mem_cons_of_mem _ hi)⟩
    cases d <;> first | exact h1 | exact absurd (List.mem_cons_self ..) (nr _)
theorem Tl.of_Sl {K : PySem.W.Frag} {G H : Hp} {σ : L2.St} : ∀ {ds : List D} {vs : List V} {ws : List (List Addr)}, Sl K G H (ds.map some) (vs.map some) ws → Tl K G H σ ds vs ws
  | [], vs, ws, h => by
    simp only [List.map_nil, Sl, List.map_eq_nil_iff] at h
    simp only [Tl]
    exact h
  | d :: ds, vs, ws, h => by
    simp only [List.map_cons, Sl] at h
    obtain ⟨v, σ', w, W', ev, rfl, o, h2⟩ := h
    cases vs with
    | nil => cases ev
    | cons v0 vs =>
      simp only [List.map_cons, List.cons.injEq, Option.some.injEq] at ev
      obtain ⟨rfl, rfl⟩ := ev
      simp only [Tl]
      exact ⟨v0, vs, w, W', rfl, rfl, Tm.of_O o, Tl.of_Sl h2⟩
/-- the callee's entry -/
def Sc.sub (S : Sc) (H G : Hp) (I : List Addr) : Sc := ⟨⟨S.K, none, none⟩, H, G, I⟩
section
variable {S : Sc} {G H : Hp} {td : List D} {tv : List V} {env : Env} {σ : L2.St} {W : List (List Addr)} {ds : List D} {vs : List V}
/-- from the caller's state, the arguments on top, to the callee's -/
theorem RR.enter {wa tw : List (List Addr)} (R : RR S G (ds ++ td) (vs ++ tv) (wa ++ tw) env σ W H) (ta : Tl S.K G H σ ds vs wa) (nr : NR ds) : RR (S.sub H G wa.flatten) G [] [] [] (ds.map some) (vs.map some) wa H := by
  have nd := R.nd
  simp only [List.flatten_append, List.append_assoc] at nd
  have sub : ∀ a ∈ wa.flatten, a ∈ (wa ++ tw).flatten ++ W.flatten := fun a ha => by
    simp only [List.flatten_append, List.append_assoc]
    exact List.mem_append_left _ ha
  refine ⟨by simp [Tl], Sl.of_Tl ta nr, ?_, fun a ha => .inr ?_, fun a ha => R.fp a (sub a (by simpa using ha)), R.sub, Sub.refl _, fun a o h _ => .inl h, fun a h => h, fun a h => .inl h, fun x h => by cases h⟩
  · simpa using (List.nodup_append.mp nd).1
  · show a ∈ wa.flatten
    simpa using ha
/-- and back: G3, H3 behind the call -/
theorem RR.leave {wa tw tw3 W3 : List (List Addr)} {td3 : List D} {tv3 : List V} {env3 : Env} {σ3 : L2.St} {G3 H3 : Hp} (R : RR S G (ds ++ td) (vs ++ tv) (wa ++ tw) env σ W H) (tl : Tl S.K G H σ td tv tw)
    (R3 : RR (S.sub H G wa.flatten) G3 td3 tv3 tw3 env3 σ3 W3 H3) {tx : List D} {vx : List V} {wx : List (List Addr)} (hx : Tl S.K G3 H3 σ tx vx wx) (hp : wx.flatten.Perm (tw3.flatten ++ W3.flatten)) : RR S G3 (tx ++ td) (vx ++ tv) (wx ++ tw) env σ W H3 := by
  have nd := R.nd
  simp only [List.flatten_append, List.append_assoc] at nd
  obtain ⟨n1, n2, dj⟩ := List.nodup_append.mp nd
  have subR : ∀ a, a ∈ tw.flatten ++ W.flatten → a ∈ (wa ++ tw).flatten ++ W.flatten := fun a ha => by
    simp only [List.flatten_append, List.append_assoc]
    exact List.mem_append_right _ ha
  have subA : ∀ a, a ∈ wa.flatten → a ∈ (wa ++ tw).flatten ++ W.flatten := fun a ha => by
    simp only [List.flatten_append, List.append_assoc]
    exact List.mem_append_left _ ha
  -- what the caller still owns is untouched
  have kept : ∀ a ∈ tw.flatten ++ W.flatten, G3 a = none ∧ H3 a = H a := fun a ha => by
    have hf := R.fp a (subR a ha)
    have hw : a ∉ wa.flatten := fun z => dj a z a ha rfl
    constructor
    · cases q : G3 a with
      | none => rfl
      | some o =>
        rcases R3.gdom a (by rw [q]; exact fun z => nomatch z) with z | z | z
        · exact absurd hf.1 z
        · exact absurd z hf.2
        · exact absurd z hw
    · cases q : H a with
      | none => exact absurd q hf.2
      | some o =>
        rcases R3.frame a o q hw with z | ⟨z, _⟩
        · exact z
        · rw [show (S.sub H G wa.flatten).B a = G a from rfl, hf.1] at z; cases z
  have b3 : Sub G G3 := R3.base
  refine ⟨hx.append (tl.mono b3 fun a ha => kept a (List.mem_append_left _ ha)), R.sl.mono b3 fun a ha => kept a (List.mem_append_right _ ha), ?_, fun a ha => ?_, fun a ha => ?_, R3.sub, R.base.trans b3, fun a o h n => ?_, fun a h => R3.dom a (R.dom a h), fun a h => ?_, fun x h => ?_⟩
  · simp only [List.flatten_append, List.append_assoc]
    refine List.nodup_append.mpr ⟨hp.nodup_iff.mpr R3.nd, n2, fun a ha b hb e => ?_⟩
    subst e
    rcases R3.own a (hp.mem_iff.mp ha) with z | z
    · exact (R.fp a (subR a hb)).2 z
    · exact dj a z a hb rfl
  · simp only [List.flatten_append, List.append_assoc] at ha
    rcases List.mem_append.mp ha with z | z
    · rcases R3.own a (hp.mem_iff.mp z) with z | z
      · exact .inl (R.fresh z)
      · exact R.own a (subA a z)
    · exact R.own a (subR a z)
  · simp only [List.flatten_append, List.append_assoc] at ha
    rcases List.mem_append.mp ha with z | z
    · exact R3.fp a (hp.mem_iff.mp z)
    · have k := kept a z
      exact ⟨k.1, by rw [k.2]; exact (R.fp a (subR a z)).2⟩
  · have nI : a ∉ (S.sub H G wa.flatten).I := fun z => by
      rcases R.own a (subA a z) with q | q
      · rw [h] at q; cases q
      · exact n q
    rcases R.frame a o h n with q | ⟨q, kvs, od, q2, q3⟩
    · rcases R3.frame a o q nI with z | ⟨z, kvs, od, z2, z3⟩
      · exact .inl z
      · have z : G a = some o := z
        refine .inr ⟨?_, kvs, od, z2, z3⟩
        rcases R.gdom a (by rw [z]; exact fun z => nomatch z) with y | y | y
        · cases p : S.B a with
          | none => exact absurd p y
          | some o' =>
            rcases R.base a o' p with x | ⟨_, _, _, x⟩
            · rw [z] at x; cases x; rfl
            · rw [z, z2] at x; cases x
        · rw [h] at y; cases y
        · exact absurd y n
    · rcases R3.frame a _ q3 nI with z | ⟨_, kvs', _, z2, _⟩
      · exact .inr ⟨q, kvs, od, q2, z⟩
      · cases z2
  · rcases R3.gdom a h with z | z | z
    · exact R.gdom a z
    · exact .inr (.inl (R.fresh z))
    · exact .inr (R.own a (subA a z))
  · obtain ⟨dd, h1, h2⟩ := R.gx x h
    exact ⟨dd, h1, h2.mono b3⟩
/-- THE CALL, at the states -/
theorem RR.call {tw : List (List Addr)} (R : RR S G (ds ++ td) (vs ++ tv) tw env σ W H) (hl : vs.length = ds.length) (nr : NR ds) : ∃ (I : List Addr) (Wa : List (List Addr)), RR (S.sub H G I) G [] [] [] (ds.map some) (vs.map some) Wa H ∧
    (∀ r vr tw3 G3 ds3 W3 H3, (∀ j, r ≠ .rf j) → RR (S.sub H G I) G3 [r] [vr] tw3 (ds3.map some) (vs.map some) W3 H3 → ∃ tw4, RR S G3 (r :: ds3 ++ td) (vr :: vs ++ tv) tw4 env σ W H3) ∧
    (∀ tw3 G3 es σ3 W3 H3, RR (S.sub H G I) G3 [] [] tw3 es σ3 W3 H3 → ∃ tw4, RR S G3 td tv tw4 env σ W H3) := by
  obtain ⟨va, vb, wa, wb, e1, rfl, l1, l2, ta, tb⟩ := R.tl.split
  obtain ⟨rfl, rfl⟩ := List.append_inj e1 (by omega)
  refine ⟨wa.flatten, wa, R.enter ta nr, fun r vr tw3 G3 ds3 W3 H3 hr R3 => ?_, fun tw3 G3 es σ3 W3 H3 R3 => ?_⟩
  · have h0 := R3.tl
    simp only [Tl] at h0
    obtain ⟨v', us, w3, xs, e2, rfl, h1, rfl, rfl⟩ := h0
    cases e2
    have t3 := Tl.of_Sl (σ := σ) R3.sl
    have hx : Tl S.K G3 H3 σ (r :: ds3) (vr :: vs) (w3 :: W3) := by
      simp only [Tl]
      refine ⟨vr, vs, w3, W3, rfl, rfl, ?_, t3⟩
      cases r <;> first | exact h1 | exact absurd rfl (hr _)
    exact ⟨_, R.leave tb R3 hx (by simp)⟩
  · have h0 := R3.tl
    simp only [Tl] at h0
    obtain ⟨_, rfl⟩ := h0
    -- what the callee owned is dropped
    have hx : Tl S.K G3 H3 σ [] [] [] := by simp [Tl]
    have R4 : RR (S.sub H G wa.flatten) G3 [] [] [] [] [] [] H3 := ⟨by simp [Tl], by simp [Sl], by simp, fun a ha => by simp at ha, fun a ha => by simp at ha, R3.sub, R3.base, R3.frame, R3.dom, R3.gdom, R3.gx⟩
    exact ⟨_, R.leave tb R4 hx (by simp)⟩
end
/-! ### arguments: frozen, or a slot's own value that the callee may change -/
inductive Ar where
  | v (d : D)
  | s (i : Nat)
def argK : List Bool → Env → List D → Option (List Ar)
  | _, _, [] => some []
  | true :: ro, e, .rf i :: ts => (argK ro e ts).map (.s i :: ·)
  | true :: _, _, _ :: _ => none
  | false :: ro, e, t :: ts => match val e t with
    | none => none
    | some d => (argK ro e ts).map (.v d :: ·)
  | [], e, t :: ts => match val e t with
    | none => none
    | some d => (argK [] e ts).map (.v d :: ·)
def AL (K : PySem.W.Frag) (G : Hp) (σ : L2.St) : List Ar → List V → Prop
  | [], vs => vs = []
  | .v d :: as, vs => ∃ v us, vs = v :: us ∧ F K G d v ∧ AL K G σ as us
  | .s i :: as, vs => ∃ v us, vs = v :: us ∧ σ[i]? = some (some v) ∧ AL K G σ as us
theorem AL.mono {K : PySem.W.Frag} {G G' : Hp} {σ : L2.St} (e : Sub G G') : ∀ {as : List Ar} {vs : List V}, AL K G σ as vs → AL K G' σ as vs
  | [], vs, h => h
  | .v d :: as, vs, h => by
    simp only [AL] at h ⊢
    obtain ⟨v, us, rfl, h1, h2⟩ := h
    exact ⟨v, us, rfl, F.mono e _ _ h1, h2.mono e⟩
  | .s i :: as, vs, h => by
    simp only [AL] at h ⊢
    obtain ⟨v, us, rfl, h1, h2⟩ := h
    exact ⟨v, us, rfl, h1, h2.mono e⟩
theorem AL.append {K : PySem.W.Frag} {G : Hp} {σ : L2.St} : ∀ {as bs : List Ar} {vs ws : List V}, AL K G σ as vs → AL K G σ bs ws → AL K G σ (as ++ bs) (vs ++ ws)
  | [], bs, vs, ws, h, k => by
    simp only [AL] at h
    subst h
    exact k
  | .v d :: as, bs, vs, ws, h, k => by
    simp only [AL] at h
    obtain ⟨v, us, rfl, h1, h2⟩ := h
    simp only [List.cons_append, AL]
    exact ⟨v, us ++ ws, rfl, h1, h2.append k⟩
  | .s i :: as, bs, vs, ws, h, k => by
    simp only [AL] at h
    obtain ⟨v, us, rfl, h1, h2⟩ := h
    simp only [List.cons_append, AL]
    exact ⟨v, us ++ ws, rfl, h1, h2.append k⟩
theorem AL.of_FL {K : PySem.W.Frag} {G : Hp} {σ : L2.St} : ∀ {ds : List D} {vs : List V}, FL K G ds vs → AL K G σ (ds.map .v) vs
  | [], vs, h => by simpa only [FL, AL, List.map_nil] using h
  | d :: ds, vs, h => by
    simp only [FL] at h
    obtain ⟨v, us, rfl, h1, h2⟩ := h
    simp only [List.map_cons, AL]
    exact ⟨v, us, rfl, h1, AL.of_FL h2⟩
/-- the first pass: from the left, every temporary is one argument -/
def argOne (b : Bool) (e : Env) (t : D) : Option Ar := match b with
  | true => match t with
    | .rf i => some (.s i)
    | _ => none
  | false => (val e t).map .v
theorem argK_cons {ro : List Bool} {e : Env} {t : D} {ts : List D} {as : List Ar} (h : argK ro e (t :: ts) = some as) : ∃ a as', as = a :: as' ∧ argOne ((ro[0]?).getD false) e t = some a ∧ argK ro.tail e ts = some as' := by
  cases ro with
  | nil =>
    simp only [argK] at h
    split at h
    · cases h
    · obtain ⟨x, h1, rfl⟩ := Option.map_eq_some_iff.mp h
      rename_i d hd
      exact ⟨.v d, x, rfl, by simp [argOne, hd], h1⟩
  | cons b ro =>
    cases b with
    | false =>
      simp only [argK] at h
      split at h
      · cases h
      · obtain ⟨x, h1, rfl⟩ := Option.map_eq_some_iff.mp h
        rename_i d hd
        exact ⟨.v d, x, rfl, by simp [argOne, hd], h1⟩
    | true =>
      cases t with
      | rf i =>
        simp only [argK] at h
        obtain ⟨x, h1, rfl⟩ := Option.map_eq_some_iff.mp h
        exact ⟨.s i, x, rfl, by simp [argOne], h1⟩
      | _ => simp only [argK] at h; cases h
section
variable {S : Sc} {G H : Hp} {td : List D} {tv : List V} {tw : List (List Addr)} {env : Env} {σ : L2.St} {W : List (List Addr)}
theorem RR.argTop {t : D} {v : V} (R : RR S G (t :: td) (v :: tv) tw env σ W H) {b : Bool} {a : Ar} (h : argOne b env t = some a) : ∃ G' tw', RR S G' td tv tw' env σ W H ∧ Sub G G' ∧ AL S.K G' σ [a] [v] := by
  cases b with
  | true =>
    cases t with
    | rf i =>
      simp only [argOne, Option.some.injEq] at h
      subst h
      obtain ⟨w, ht⟩ := R.top
      obtain ⟨_, tw', _, R2⟩ := R.pop
      exact ⟨G, tw', R2, Sub.refl G, by simp only [AL]; exact ⟨v, [], rfl, ht.2, rfl⟩⟩
    | _ => simp only [argOne] at h; cases h
  | false =>
    simp only [argOne, Option.map_eq_some_iff] at h
    obtain ⟨d, h1, rfl⟩ := h
    obtain ⟨G', tw', R2, s2, f⟩ := R.frzTop h1
    exact ⟨G', tw', R2, s2, by simp only [AL]; exact ⟨v, [], rfl, f, rfl⟩⟩
/-- all of them; rs: the flags behind those that were taken -/
theorem RR.argAll : ∀ {ts : List D} {vs : List V} {ro : List Bool} {as : List Ar} {td : List D} {tv : List V} {G : Hp} {tw : List (List Addr)}, RR S G (ts.reverse ++ td) (vs.reverse ++ tv) tw env σ W H → vs.length = ts.length → argK ro env ts = some as →
    ∃ G' tw', RR S G' td tv tw' env σ W H ∧ Sub G G' ∧ AL S.K G' σ as vs := by
  intro ts
  induction ts with
  | nil =>
    intro vs ro as td tv G tw R hl h
    have e2 : vs = [] := List.eq_nil_of_length_eq_zero hl
    subst e2
    have : as = [] := by cases ro <;> simp [argK] at h <;> first | exact h | (rename_i b ro; cases b <;> simp [argK] at h <;> exact h)
    subst this
    exact ⟨G, tw, R, Sub.refl G, by simp [AL]⟩
  | cons t ts ih =>
    intro vs ro as td tv G tw R hl h
    cases vs with
    | nil => cases hl
    | cons v vs =>
      obtain ⟨a, as', rfl, h1, h2⟩ := argK_cons h
      simp only [List.reverse_cons, List.append_assoc, List.singleton_append] at R
      obtain ⟨G1, tw1, R1, s1, a1⟩ := ih (td := t :: td) (tv := v :: tv) R (by simpa using hl) h2
      obtain ⟨G2, tw2, R2, s2, a2⟩ := R1.argTop h1
      exact ⟨G2, tw2, R2, s1.trans s2, a2.append (a1.mono s2)⟩
/-- the second pass: the slots' own values are taken out -/
def grab : List Ar → Env → Option (List D × Env)
  | [], e => some ([], e)
  | .v d :: as, e => match grab as e with
    | none => none
    | some (ds, e') => some (d :: ds, e')
  | .s i :: as, e => match grab as e with
    | none => none
    | some (ds, e') => match e'[i]? with
      | some (some d) => some (d :: ds, e'.set i none)
      | _ => none
theorem RR.grab : ∀ {as : List Ar} {vs : List V} {ds : List D} {env' : Env}, RR S G td tv tw env σ W H → AL S.K G σ as vs → Mx.grab as env = some (ds, env') → ∃ tw' W', RR S G (ds ++ td) (vs ++ tv) tw' env' σ W' H ∧ vs.length = ds.length ∧ NR ds
  | [], vs, ds, env', R, h, q => by
    simp only [AL] at h
    subst h
    cases q
    exact ⟨tw, W, R, rfl, fun i z => nomatch z⟩
  | .v d :: as, vs, ds, env', R, h, q => by
    simp only [AL] at h
    obtain ⟨v, us, rfl, h1, h2⟩ := h
    simp only [Mx.grab] at q
    split at q
    · cases q
    · cases q
      obtain ⟨tw', W', R2, hl, nr⟩ := R.grab h2 (by assumption)
      refine ⟨_, W', R2.push h1, by simp [hl], fun i hi => ?_⟩
      rcases List.mem_cons.mp hi with e | hi
      · rw [← e] at h1; simp only [F] at h1
      · exact nr i hi
  | .s i :: as, vs, ds, env', R, h, q => by
    simp only [AL] at h
    obtain ⟨v, us, rfl, h1, h2⟩ := h
    simp only [Mx.grab] at q
    split at q
    · cases q
    · split at q
      · cases q
        obtain ⟨tw', W', R2, hl, nr⟩ := R.grab h2 (by assumption)
        rename_i d hd
        obtain ⟨v2, w2, e1, R3⟩ := R2.take hd
        rw [h1] at e1
        cases e1
        obtain ⟨v3, w3, _, _, o⟩ := R2.sl.get hd
        refine ⟨_, _, R3, by simp [hl], fun j hj => ?_⟩
        rcases List.mem_cons.mp hj with e | hj
        · rw [← e] at o; simp only [O] at o
        · exact nr j hj
      · cases q
/-- behind the call: they are put back -/
def putB : List Ar → List D → Env → Option Env
  | [], [], e => some e
  | .v _ :: as, _ :: ds, e => putB as ds e
  | .s i :: as, d :: ds, e => match e[i]? with
    | some none => putB as ds (e.set i (some d))
    | _ => none
  | _, _, _ => none
theorem RR.drop2 {r d : D} {vr v : V} (R : RR S G (r :: d :: td) (vr :: v :: tv) tw env σ W H) : ∃ tw', RR S G (r :: td) (vr :: tv) tw' env σ W H := by
  obtain ⟨_, R2⟩ := R.swap'
  obtain ⟨_, tw', _, R3⟩ := R2.pop
  exact ⟨tw', R3⟩
theorem RR.putB {G0 : Hp} {r : D} {vr : V} : ∀ {as : List Ar} {vs : List V} {ds : List D} {env env' : Env} {W : List (List Addr)} {tw : List (List Addr)}, RR S G (r :: ds ++ td) (vr :: vs ++ tv) tw env σ W H → NR ds → AL S.K G0 σ as vs → Mx.putB as ds env = some env' → ∃ tw' W', RR S G (r :: td) (vr :: tv) tw' env' σ W' H
  | [], vs, ds, env, env', W, tw, R, nr, h, q => by
    simp only [AL] at h
    subst h
    cases ds with
    | nil => cases q; exact ⟨tw, W, R⟩
    | cons d ds => simp only [Mx.putB] at q; cases q
  | .v d0 :: as, vs, ds, env, env', W, tw, R, nr, h, q => by
    simp only [AL] at h
    obtain ⟨v, us, rfl, h1, h2⟩ := h
    cases ds with
    | nil => simp only [Mx.putB] at q; cases q
    | cons d ds =>
      simp only [Mx.putB] at q
      obtain ⟨tw', R2⟩ := RR.drop2 (td := ds ++ td) (tv := us ++ tv) R
      exact RR.putB (as := as) (ds := ds) R2 (fun i hi => nr i (List.mem_cons_of_mem _ hi)) h2 q
  | .s i :: as, vs, ds, env, env', W, tw, R, nr, h, q => by
    simp only [AL] at h
    obtain ⟨v, us, rfl, h1, h2⟩ := h
    cases ds with
    | nil => simp only [Mx.putB] at q; cases q
    | cons d ds =>
      simp only [Mx.putB] at q
      split at q
      · obtain ⟨tw1, R2⟩ := RR.swap' (td := ds ++ td) (tv := us ++ tv) R
        obtain ⟨w, tw2, rfl, _⟩ := R2.pop
        have R3 := R2.back (by assumption) h1 fun j z => nr j (by rw [z]; exact List.mem_cons_self ..)
        exact RR.putB (as := as) (ds := ds) R3 (fun i hi => nr i (List.mem_cons_of_mem _ hi)) h2 q
      · cases q
end
/-! ### how a call binds -/
/-- the items of xs at the places sel -/
def pick {α : Type} (sel : List Nat) (xs : List α) : List α := sel.filterMap (xs[·]?)
theorem pick_nil {α : Type} {xs : List α} : pick [] xs = [] := rfl
theorem pick_shift {α : Type} {x : α} {xs : List α} : ∀ sel : List Nat, pick (sel.map (· + 1)) (x :: xs) = pick sel xs
  | [] => rfl
  | i :: sel => by
    have h := pick_shift (x := x) (xs := xs) sel
    simp only [pick, List.map_cons, List.filterMap_cons, List.getElem?_cons_succ] at h ⊢
    rw [h]
theorem pick_self {α : Type} {x : α} {xs : List α} (sel : List Nat) : pick (0 :: sel.map (· + 1)) (x :: xs) = x :: pick sel xs := by
  have h := pick_shift (x := x) (xs := xs) sel
  simp only [pick, List.filterMap_cons, List.getElem?_cons_zero] at h ⊢
  rw [h]
theorem Vals.pick {vs : List V} {us : List Value} (h : Vals vs us) : ∀ sel : List Nat, Vals (Mx.pick sel vs) (Mx.pick sel us)
  | [] => .nil
  | i :: sel => by
    have ih := Vals.pick h sel
    simp only [Mx.pick, List.filterMap_cons] at ih ⊢
    cases q : vs[i]? with
    | none =>
      have : us[i]? = none := by
        rw [List.getElem?_eq_none_iff] at q ⊢
        rw [← h.length]; exact q
      rw [this]
      exact ih
    | some v =>
      obtain ⟨u, hu, rv⟩ := h.get q
      rw [hu]
      exact .cons rv ih
/-- a call with n positional values, the keywords ks; sel: where each parameter's value stands among the positional values, the keywords' values, the defaults dvs -/
structure Bd (K : PySem.W.Frag) (fd : FuncData) (ps : List Str) (n : Nat) (ks : List Str) (sel : List Nat) (dvs : List V) : Prop where
  ex : ∃ ds : List Value, Vals dvs ds ∧ ∀ (s : Shared) (us ws : List Value), K.In s.heap → us.length = n → ws.length = ks.length → BindsTo s fd ⟨us, ks.zip ws⟩ (ps.zip (pick sel (us ++ ws ++ ds)))
section
variable {K : PySem.W.Frag} {x qual : Str} {params : Arguments} {body : List Stmt} {scope : Scope} {dvs : List V} {kws : List (Str × V)} {f : Addr} {fd : FuncData} {ps : List Str}
theorem Bd.plain (F : FunD K x qual params body scope [] [] f fd) (n : Nat) (ks : List Str) (sel : List Nat)
    (h : ∀ (kV doc pm : Value) (an : Option Addr) (cdv ct : Value) (us ws : List Value), us.length = n → ws.length = ks.length → bindArgs (PySem.W.fnOf x qual params body scope .none kV doc pm an cdv ct) ⟨us, ks.zip ws⟩ = pure (ps.zip (pick sel (us ++ ws ++ [])))) : Bd K fd ps n ks sel [] := by
  obtain ⟨oc, od, dV, kV, doc, pm, an, cdv, ct, osl, rfl, lk, hcd, hD, hK⟩ := F.ex
  rcases hD with ⟨_, rfl⟩ | ⟨e, _⟩
  · exact ⟨[], .nil, fun s us ws _ l1 l2 => .of_eq (h kV doc pm an cdv ct us ws l1 l2)⟩
  · exact absurd rfl e
theorem Bd.dflt (F : FunD K x qual params body scope dvs [] f fd) (n : Nat) (ks : List Str) (sel : List Nat) (hd : dvs ≠ [])
    (h : ∀ (T : Addr) (kV doc pm : Value) (an : Option Addr) (cdv ct : Value) (us ws its : List Value), us.length = n → ws.length = ks.length → its.length = dvs.length →
      ∃ k, bindArgs (PySem.W.fnOf x qual params body scope (.ref T) kV doc pm an cdv ct) ⟨us, ks.zip ws⟩ = seqItems? (.ref T) >>= k ∧ k (some its.toArray) = pure (ps.zip (pick sel (us ++ ws ++ its)))) : Bd K fd ps n ks sel dvs := by
  obtain ⟨oc, od, dV, kV, doc, pm, an, cdv, ct, osl, rfl, lk, hcd, hD, hK⟩ := F.ex
  rcases hD with ⟨e, _⟩ | ⟨_, T, o, its, m, rfl, lT, oT, rT⟩
  · exact absurd e hd
  · refine ⟨its, rT, fun s us ws X l1 l2 => ?_⟩
    obtain ⟨k, e1, e2⟩ := h T kV doc pm an cdv ct us ws its l1 l2 rT.length.symm
    refine BindsTo.of_looks fun M => ?_
    rw [e1]
    exact looks_items X lT oT (.of_pure e2)
end
/-- a promise by positional and keyword values, however they are bound -/
structure FnCk (gd : Bool) (P : Program) (w : World) (K : PySem.W.Frag) (mg : Str → Option Value) (base : Heap) (k : Nat) (f : Addr) (n : Nat) (ks : List Str) (sp : Sp) : Prop where
  run : ∀ (A : Around) (outer : List PySem.Env) (s : Shared) (H : Hp) (us ws : List Value) (vs zs : List V) (Q : VK) (E : XK), Room k A → (gd = true → A.guards = some []) → L2.Env0 P w K mg base A outer s H → vs.length = n → zs.length = ks.length → Vals vs us → Vals zs ws → sp (vs ++ zs) H Q E →
    codeAny (model P w) A (.call (.ref f) ⟨us, ks.zip ws⟩) (CR (L2.CX P w) outer P w H s Q E) s
section
variable {P : Program} {w : World} {K : PySem.W.Frag} {mg : Str → Option Value} {base : Heap} {k n : Nat} {f : Addr} {fd : FuncData} {ps N : List Str} {gd : Bool} {ks : List Str} {sp sp' : Sp}
theorem FnCk.mono {j : Nat} (F : FnCk gd P w K mg base j f n ks sp) (h : j ≤ k) : FnCk gd P w K mg base k f n ks sp := ⟨fun A outer s H us ws vs zs Q E hr => F.run A outer s H us ws vs zs Q E (hr.mono h)⟩
theorem FnCk.imp (F : FnCk gd P w K mg base k f n ks sp) (h : ∀ vs H Q E, sp' vs H Q E → sp vs H Q E) : FnCk gd P w K mg base k f n ks sp' := ⟨fun A outer s H us ws vs zs Q E hr hg e0 l1 l2 r1 r2 q => F.run A outer s H us ws vs zs Q E hr hg e0 l1 l2 r1 r2 (h _ _ _ _ q)⟩
theorem FnOg.ck {sel : List Nat} {dvs : List V} (F : FnOg gd P w K mg base k f fd ps sp) (b : Bd K fd ps n ks sel dvs) : FnCk gd P w K mg base k f n ks (fun vs H Q E => sp (pick sel (vs ++ dvs)) H Q E) := by
  obtain ⟨ds, rd, hb⟩ := b.ex
  refine ⟨fun A outer s H us ws vs zs Q E hr hg e0 l1 l2 r1 r2 q => ?_⟩
  have r3 : Vals (pick sel ((vs ++ zs) ++ dvs)) (pick sel ((us ++ ws) ++ ds)) := Vals.pick ((r1.append r2).append rd) sel
  exact F.run A outer s H ⟨us, ks.zip ws⟩ _ _ Q E hr hg e0 (hb s us ws (e0.mod.kin.keeps fun b o e => (e0.bs b o e).1) (r1.length.symm.trans l1) (r2.length.symm.trans l2)) r3 q
end
section
variable {X : Cx} {gd : Bool} {k n : Nat} {f C : Addr} {ks : List Str} {sp : Sp} {x m : Str} {p pos apos : Pos} {e o : Expr} {es : List Expr} {kws : List Keyword} {t tk : TA} {ta : TE} {wx : WX}
theorem run_ck {pins : List (Addr × Obj)} {σ : L2.St} {H : Hp} {s : Shared} {Q : VK} {us ws : List Value} {vs zs : List V} (F : FnCk gd X.prog X.w X.K X.mg X.base k f n ks sp) (hr : Room k X.A) (hgd : gd = true → X.A.guards = some []) (tk : Takes X wx)
    (I : Inv X pins σ H s) (r : Vals vs us) (rz : Vals zs ws) (l1 : vs.length = n) (l2 : zs.length = ks.length) (h : sp (vs ++ zs) H Q (WE wx σ)) : wpAny (model X.prog X.w) X.A (call (.ref f) us (ks.zip ws)) (EP X pins σ Q) X.xe s := by
  refine wpAny_call (codeAny_mono (F.run X.A X.stack s H us ws vs zs Q (WE wx σ) hr hgd I.env0 l1 l2 r rz h) fun r s' hq => ?_)
  cases r with
  | error e => exact passAt tk σ pins H s e s' I hq
  | ok fl =>
    cases fl with
    | ret u => exact I.after hq
    | next => exact False.elim hq
    | brk => exact False.elim hq
    | cont => exact False.elim hq
def tCk (n m : Nat) (sp : Sp) (wx : WX) (t tk : TA) : TE := fun σ H Q => t σ H fun vs H1 => tk σ H1 fun zs H2 => vs.length = n ∧ zs.length = m ∧ sp (vs ++ zs) H2 Q (WE wx σ)
theorem pe_ck (F : FnCk gd X.prog X.w X.K X.mg X.base k f n [] sp) (hr : Room k X.A) (hgd : gd = true → X.A.guards = some []) (tx : Takes X wx) (hg : Gl X x) (hm : X.mg x = some (.ref f)) (hk : PySem.W.keepIn X.K (.ref f) = true)
    (ha : PA X (e :: es) t) (hdb : (x == ("__debug__" : Str)) = false := by decide) (he : starEach (e :: es) X.env = (false, eval e X.env) :: starEach es X.env := by rfl) (hpl : (backTo pos (starEach es X.env)).any (·.1) = false := by rfl) :
    PE X (.Call (.Name x p) (e :: es) [] pos) (tCk n 0 sp wx t tNil) := by
  refine ⟨fun pins s σ H Q I h => ?_⟩
  refine wpAny_Call_Name_kw (ld_glob I hg hm ?_ hdb)
  refine PySem.W.callWith_K (h₀ := X.base) I.ok.mod.kin hk (thn (ha.run pos pins s σ H _ I h) fun us s1 ⟨vs, H1, I1, r, l1, l2, q⟩ => ⟨I1.kIn, ?_⟩) he hpl
  have z := run_ck (ws := []) (zs := []) F hr hgd tx I1 r .nil l1 l2 q
  exact z
theorem pe_ck0 (F : FnCk gd X.prog X.w X.K X.mg X.base k f n [] sp) (hr : Room k X.A) (hgd : gd = true → X.A.guards = some []) (tx : Takes X wx) (hg : Gl X x) (hm : X.mg x = some (.ref f)) (hk : PySem.W.keepIn X.K (.ref f) = true)
    (hdb : (x == ("__debug__" : Str)) = false := by decide) : PE X (.Call (.Name x p) [] [] pos) (tCk n 0 sp wx tNil tNil) := by
  refine ⟨fun pins s σ H Q I h => ?_⟩
  refine wpAny_Call_Name_kw (ld_glob I hg hm ?_ hdb)
  obtain ⟨l1, l2, q⟩ := h
  exact PySem.W.callWith_K0 I.kIn hk (run_ck (us := []) (ws := []) (zs := []) F hr hgd tx I .nil .nil l1 l2 q)
theorem pe_ckK (F : FnCk gd X.prog X.w X.K X.mg X.base k f n ks sp) (hr : Room k X.A) (hgd : gd = true → X.A.guards = some []) (tx : Takes X wx) (hg : Gl X x) (hm : X.mg x = some (.ref f)) (hk : PySem.W.keepIn X.K (.ref f) = true)
    (ha : PA X (e :: es) t) (hkw : PK X kws tk) (hall : (backToKw pos (keywordEach kws X.env)).all (·.1.isSome) = true := by rfl) (hks : (backToKw pos (keywordEach kws X.env)).filterMap (·.1) = ks := by rfl)
    (hdb : (x == ("__debug__" : Str)) = false := by decide) (he : starEach (e :: es) X.env = (false, eval e X.env) :: starEach es X.env := by rfl)
    (hpl : ((backTo pos (starEach (e :: es) X.env)).any (·.1) || (backToKw pos (keywordEach kws X.env)).any (·.1.isNone)) = false := by rfl) :
    PE X (.Call (.Name x p) (e :: es) kws pos) (tCk n ks.length sp wx t tk) := by
  refine ⟨fun pins s σ H Q I h => ?_⟩
  refine wpAny_Call_Name_kw (ld_glob I hg hm ?_ hdb)
  refine PySem.W.callWith_KW (h₀ := X.base) I.ok.mod.kin hk hall (thn (ha.run pos pins s σ H _ I h) fun us s1 ⟨vs, H1, I1, r, q⟩ => ?_) hpl he
  refine thn (hkw.run pos pins s1 σ H1 _ I1 q) fun ws s2 ⟨zs, H2, I2, rz, l1, l2, q2⟩ => ⟨I2.kIn, ?_⟩
  rw [hks]
  exact run_ck F hr hgd tx I2 r rz l1 l2 q2
theorem pe_ckK0 (F : FnCk gd X.prog X.w X.K X.mg X.base k f n ks sp) (hr : Room k X.A) (hgd : gd = true → X.A.guards = some []) (tx : Takes X wx) (hg : Gl X x) (hm : X.mg x = some (.ref f)) (hk : PySem.W.keepIn X.K (.ref f) = true)
    (hkw : PK X kws tk) (hall : (backToKw pos (keywordEach kws X.env)).all (·.1.isSome) = true := by rfl) (hks : (backToKw pos (keywordEach kws X.env)).filterMap (·.1) = ks := by rfl)
    (hdb : (x == ("__debug__" : Str)) = false := by decide)
    (hpl : ((backTo pos (starEach [] X.env)).any (·.1) || (backToKw pos (keywordEach kws X.env)).any (·.1.isNone)) = false := by rfl) :
    PE X (.Call (.Name x p) [] kws pos) (tCk n ks.length sp wx tNil tk) := by
  refine ⟨fun pins s σ H Q I h => ?_⟩
  refine wpAny_Call_Name_kw (ld_glob I hg hm ?_ hdb)
  refine PySem.W.callWith_KW0 (h₀ := X.base) I.ok.mod.kin hk hall ?_ hpl
  refine thn (hkw.run pos pins s σ H _ I h) fun ws s2 ⟨zs, H2, I2, rz, l1, l2, q2⟩ => ⟨I2.kIn, ?_⟩
  rw [hks]
  exact run_ck (us := []) (vs := []) F hr hgd tx I2 .nil rz l1 l2 q2
/-- o.m(..) -/
def tMCk (C : Addr) (m : Str) (n : Nat) (sp : Sp) (wx : WX) (ta : TE) (t : TA) : TE := fun σ H Q => ta σ H fun x H1 => ∃ a dx fs, x = .ref a ∧ H1 a = some (.ins C dx fs) ∧ fs.lookup m = none ∧
  t σ H1 fun vs H2 => vs.length + 1 = n ∧ sp (x :: vs) H2 Q (WE wx σ)
theorem pe_mck {pl : Sem Bool} (he : PE X o ta) (c : Cls X.K C) (hm : Meth X.K C m f) (F : FnCk gd X.prog X.w X.K X.mg X.base k f n [] sp) (hr : Room k X.A) (hgd : gd = true → X.A.guards = some []) (tx : Takes X wx) (ha : PA X (e :: es) t)
    (hst : starEach (e :: es) X.env = (false, eval e X.env) :: starEach es X.env := by rfl) (hpl : (backTo pos (starEach es X.env)).any (·.1) = false := by rfl)
    (ht : eval (.Call (.Attribute o m apos) (e :: es) [] pos) X.env = (do
      let ov ← eval o X.env
      standAt apos.atName
      let (f, first) ← holding [ov] (getMethod ov m pl)
      callWith pos f first (backTo pos (starEach (e :: es) X.env)) (backToKw pos (keywordEach [] X.env))) := by rfl) :
    PE X (.Call (.Attribute o m apos) (e :: es) [] pos) (tMCk C m n sp wx ta t) := by
  refine ⟨fun pins s σ H Q I h => ?_⟩
  refine PySem.W.methodCall_KW (pl := pl) (thn (he.run pins s σ H _ I h) fun u s1 ⟨x, H1, I1, rx, a, dx, fs, ex, ea, l, q⟩ => ?_) ht
  subst ex
  obtain rfl : u = Value.ref a := rx
  refine getmeth_ok I1 ea c hm l ?_
  refine PySem.W.callWith_K (first := [.ref a]) (h₀ := X.base) I.ok.mod.kin hm.kp (thn (ha.run pos pins s1 σ H1 _ I1 q) fun us s2 ⟨vs, H2, I2, r, l1, q2⟩ => ⟨I2.kIn, ?_⟩) hst hpl
  exact run_ck (us := .ref a :: us) (vs := .ref a :: vs) (ws := []) (zs := []) F hr hgd tx I2 (.cons rfl r) .nil (by simpa using l1) rfl (by simpa using q2)
theorem pe_mck0 {pl : Sem Bool} (he : PE X o ta) (c : Cls X.K C) (hm : Meth X.K C m f) (F : FnCk gd X.prog X.w X.K X.mg X.base k f n [] sp) (hr : Room k X.A) (hgd : gd = true → X.A.guards = some []) (tx : Takes X wx)
    (ht : eval (.Call (.Attribute o m apos) [] [] pos) X.env = (do
      let ov ← eval o X.env
      standAt apos.atName
      let (f, first) ← holding [ov] (getMethod ov m pl)
      callWith pos f first (backTo pos (starEach [] X.env)) (backToKw pos (keywordEach [] X.env))) := by rfl) :
    PE X (.Call (.Attribute o m apos) [] [] pos) (tMCk C m n sp wx ta tNil) := by
  refine ⟨fun pins s σ H Q I h => ?_⟩
  refine PySem.W.methodCall_KW (pl := pl) (thn (he.run pins s σ H _ I h) fun u s1 ⟨x, H1, I1, rx, a, dx, fs, ex, ea, l, q⟩ => ?_) ht
  subst ex
  obtain rfl : u = Value.ref a := rx
  refine getmeth_ok I1 ea c hm l ?_
  obtain ⟨l1, q2⟩ := q
  exact PySem.W.callWith_K0 (first := [.ref a]) I1.kIn hm.kp (run_ck (us := [.ref a]) (vs := [.ref a]) (ws := []) (zs := []) F hr hgd tx I1 (.cons rfl .nil) .nil l1 rfl q2)
/-- C(..) -/
def tKCk (C : Addr) (n m : Nat) (sp : Sp) (wx : WX) (t tk : TA) : TE := fun σ H Q => t σ H fun vs H1 => tk σ H1 fun zs H2 => vs.length + 1 = n ∧ zs.length = m ∧ ∀ x dx, H2 x = none → H2 dx = none → dx ≠ x →
  sp (.ref x :: (vs ++ zs)) (upd (upd H2 dx (.own x)) x (.ins C dx [])) (fun v H3 => v = .non ∧ Q (.ref x) H3) (WE wx σ)
theorem run_kck {pins : List (Addr × Obj)} {σ : L2.St} {H : Hp} {s : Shared} {Q : VK} {us ws : List Value} {vs zs : List V} (M : Mk X.K C f) (F : FnCk gd X.prog X.w X.K X.mg X.base k f n ks sp) (hr : Room (k + 1) X.A) (hgd : gd = true → X.A.guards = some []) (tk : Takes X wx)
    (I : Inv X pins σ H s) (r : Vals vs us) (rz : Vals zs ws) (l1 : vs.length + 1 = n) (l2 : zs.length = ks.length)
    (h : ∀ x dx, H x = none → H dx = none → dx ≠ x → sp (.ref x :: (vs ++ zs)) (upd (upd H dx (.own x)) x (.ins C dx [])) (fun v H2 => v = .non ∧ Q (.ref x) H2) (WE wx σ)) :
    wpAny (model X.prog X.w) X.A (call (.ref C) us (ks.zip ws)) (EP X pins σ Q) X.xe s := by
  have hq := h (s.heap.objs.size + 1) s.heap.objs.size (I.hok.fresh (Nat.le_succ _)) (I.hok.fresh (Nat.le_refl _)) (Nat.ne_of_lt (Nat.lt_succ_self _))
  have I2 := Inv.made (C := C) I
  have hgd2 : gd = true → (X.A.under (.builtin "type.__call__" ⟨Value.ref C :: us, ks.zip ws⟩)).guards = some [] := fun hg => by
    have := hgd hg
    simp [Around.under, this, pushGuards_eq, Code.guards, Code.isGuard, guardIds]
  refine wpAny_call (make_map (f := f) I.kIn M.makes M.init (beq_iff_eq.mp M.fn) (codeAny_mono (F.run _ X.stack _ _ (Value.ref (s.heap.objs.size + 1) :: us) ws (V.ref (s.heap.objs.size + 1) :: vs) zs _ (WE wx σ) (hr.make C us (ks.zip ws)) hgd2
    (I2.env0.make C us (ks.zip ws)) (by simpa using l1) l2 (.cons rfl r) rz hq) fun r s' hq' => ?_))
  cases r with
  | error e => exact passAt tk σ pins _ _ e s' I2 hq'
  | ok fl =>
    cases fl with
    | ret u =>
      obtain ⟨v, H', I3, rv, ev, q3⟩ := I2.after hq'
      subst ev
      exact ⟨rv, ⟨V.ref (s.heap.objs.size + 1), H', I3, rfl, q3⟩⟩
    | next => exact False.elim hq'
    | brk => exact False.elim hq'
    | cont => exact False.elim hq'
theorem pe_kck (M : Mk X.K C f) (F : FnCk gd X.prog X.w X.K X.mg X.base k f n [] sp) (hr : Room (k + 1) X.A) (hgd : gd = true → X.A.guards = some []) (tx : Takes X wx) (hg : Gl X x) (hm : X.mg x = some (.ref C)) (ha : PA X (e :: es) t)
    (hdb : (x == ("__debug__" : Str)) = false := by decide) (he : starEach (e :: es) X.env = (false, eval e X.env) :: starEach es X.env := by rfl) (hpl : (backTo pos (starEach es X.env)).any (·.1) = false := by rfl) :
    PE X (.Call (.Name x p) (e :: es) [] pos) (tKCk C n 0 sp wx t tNil) := by
  refine ⟨fun pins s σ H Q I h => ?_⟩
  refine wpAny_Call_Name_kw (ld_glob I hg hm ?_ hdb)
  refine PySem.W.callWith_K (h₀ := X.base) I.ok.mod.kin M.kp (thn (ha.run pos pins s σ H _ I h) fun us s1 ⟨vs, H1, I1, r, l1, l2, q⟩ => ⟨I1.kIn, ?_⟩) he hpl
  exact run_kck (ws := []) (zs := []) M F hr hgd tx I1 r .nil l1 l2 q
theorem pe_kck0 (M : Mk X.K C f) (F : FnCk gd X.prog X.w X.K X.mg X.base k f n [] sp) (hr : Room (k + 1) X.A) (hgd : gd = true → X.A.guards = some []) (tx : Takes X wx) (hg : Gl X x) (hm : X.mg x = some (.ref C))
    (hdb : (x == ("__debug__" : Str)) = false := by decide) : PE X (.Call (.Name x p) [] [] pos) (tKCk C n 0 sp wx tNil tNil) := by
  refine ⟨fun pins s σ H Q I h => ?_⟩
  refine wpAny_Call_Name_kw (ld_glob I hg hm ?_ hdb)
  obtain ⟨l1, l2, q⟩ := h
  exact PySem.W.callWith_K0 I.kIn M.kp (run_kck (us := []) (ws := []) (zs := []) (vs := []) M F hr hgd tx I .nil .nil l1 l2 q)
end
end Mx
set_option Elab.async false
set_option linter.all false
set_option maxRecDepth 100000
set_option maxHeartbeats 1000000
/-! Mx8: calls by the mirrors -/
namespace Mx
open PySem PySem.Spec L2 PyProof.Rows
theorem AL.get {K : PySem.W.Frag} {G : Hp} {σ : L2.St} : ∀ {as : List Ar} {vs : List V} (i : Nat), AL K G σ as vs → (as[i]? = none ∧ vs[i]? = none) ∨ ∃ a v, as[i]? = some a ∧ vs[i]? = some v ∧ AL K G σ [a] [v]
  | [], vs, i, h => by
    simp only [AL] at h
    subst h
    exact .inl ⟨rfl, rfl⟩
  | .v d :: as, vs, 0, h => by
    simp only [AL] at h
    obtain ⟨v, us, rfl, h1, h2⟩ := h
    exact .inr ⟨_, v, rfl, rfl, by simp only [AL]; exact ⟨v, [], rfl, h1, rfl⟩⟩
  | .s j :: as, vs, 0, h => by
    simp only [AL] at h
    obtain ⟨v, us, rfl, h1, h2⟩ := h
    exact .inr ⟨_, v, rfl, rfl, by simp only [AL]; exact ⟨v, [], rfl, h1, rfl⟩⟩
  | .v d :: as, vs, i + 1, h => by
    simp only [AL] at h
    obtain ⟨v, us, rfl, h1, h2⟩ := h
    exact AL.get i h2
  | .s j :: as, vs, i + 1, h => by
    simp only [AL] at h
    obtain ⟨v, us, rfl, h1, h2⟩ := h
    exact AL.get i h2
theorem AL.pick {K : PySem.W.Frag} {G : Hp} {σ : L2.St} {as : List Ar} {vs : List V} (h : AL K G σ as vs) : ∀ sel : List Nat, AL K G σ (Mx.pick sel as) (Mx.pick sel vs)
  | [] => by simp [Mx.pick, AL]
  | i :: sel => by
    have ih := h.pick sel
    simp only [Mx.pick, List.filterMap_cons] at ih ⊢
    rcases h.get i with ⟨e1, e2⟩ | ⟨a, v, e1, e2, one⟩
    · rw [e1, e2]
      exact ih
    · rw [e1, e2]
      exact one.append ih
theorem AL.length {K : PySem.W.Frag} {G : Hp} {σ : L2.St} : ∀ {as : List Ar} {vs : List V}, AL K G σ as vs → vs.length = as.length
  | [], vs, h => by
    simp only [AL] at h
    subst h
    rfl
  | .v d :: as, vs, h => by
    simp only [AL] at h
    obtain ⟨v, us, rfl, h1, h2⟩ := h
    simp [h2.length]
  | .s j :: as, vs, h => by
    simp only [AL] at h
    obtain ⟨v, us, rfl, h1, h2⟩ := h
    simp [h2.length]
/-- a call's form: n values are written, the callee has np parameters; ro: which of the written ones are a slot's own value; sel, dds: as Bd -/
structure Sg where
  n : Nat
  np : Nat
  ro : List Bool
  sel : List Nat
  dds : List D
/-- from the temporaries to the callee's parameters -/
def take0 (g : Sg) (ts : List D) (e : Env) : Option (List Ar × List D × Env) := if ts.length = g.n then
    match argK g.ro e ts with
    | none => none
    | some as => match grab (pick g.sel (as ++ g.dds.map .v)) e with
      | none => none
      | some (ds, e1) => if ds.length = g.np then some (pick g.sel (as ++ g.dds.map .v), ds, e1) else none
  else none
theorem take_ok {S : Sc} {G H : Hp} {td : List D} {tv : List V} {tw : List (List Addr)} {env : Env} {σ : L2.St} {W : List (List Addr)} {ts : List D} {vs : List V} {dvs : List V} {g : Sg} {bs : List Ar} {ds : List D} {e1 : Env} (R : RR S G (ts.reverse ++ td) (vs.reverse ++ tv) tw env σ W H) (hl : vs.length = ts.length)
    (hd : ∀ G, FL S.K G g.dds dvs) (h : take0 g ts env = some (bs, ds, e1)) : ts.length = g.n ∧ ds.length = g.np ∧ ∃ G1 tw1 W1, RR S G1 (ds ++ td) (pick g.sel (vs ++ dvs) ++ tv) tw1 e1 σ W1 H ∧ (pick g.sel (vs ++ dvs)).length = ds.length ∧ NR ds ∧ AL S.K G1 σ bs (pick g.sel (vs ++ dvs)) := by
  unfold take0 at h
  split at h
  · rename_i hn
    split at h
    · cases h
    · rename_i as ha
      split at h
      · cases h
      · rename_i ds' e1' hg
        split at h
        · rename_i hp
          cases h
          obtain ⟨G1, tw1, R1, s1, al⟩ := R.argAll hl ha
          have al2 : AL S.K G1 σ (pick g.sel (as ++ g.dds.map .v)) (pick g.sel (vs ++ dvs)) := (al.append (AL.of_FL (hd G1))).pick g.sel
          obtain ⟨tw2, W2, R2, hl2, nr⟩ := R1.grab al2 hg
          exact ⟨hn, hp, G1, tw2, W2, R2, hl2, nr, al2⟩
        · cases h
  · cases h
/-- the callee's mirror m at the temporaries ts -/
def call1 (g : Sg) (m : FM) (ts : List D) (e : Env) : Re D := match take0 g ts e with
  | none => .bad
  | some (bs, ds, e1) => match m ds with
    | .bad => .bad
    | .ex x => .ex x e1
    | .ok r ds' => match putB bs ds' e1 with
      | none => .bad
      | some e2 => .ok r e2
theorem nr_slots {S : Sc} {G H : Hp} {td : List D} {tv : List V} {tw : List (List Addr)} {σ : L2.St} {W : List (List Addr)} {ds : List D} (R : RR S G td tv tw (ds.map some) σ W H) : NR ds := fun i hi => by
  obtain ⟨j, hj, e⟩ := List.mem_iff_getElem.mp hi
  have : (ds.map some)[j]? = some (some (.rf i)) := by rw [List.getElem?_map, List.getElem?_eq_getElem hj, e]; rfl
  obtain ⟨_, _, _, _, o⟩ := R.sl.get this
  simp only [O] at o
theorem call1_ok {S : Sc} {G H : Hp} {td : List D} {tv : List V} {tw : List (List Addr)} {env : Env} {σ : L2.St} {W : List (List Addr)} {ts : List D} {vs : List V} {Q : VK} {dvs : List V} {g : Sg} {m : FM} {wx : WX} (R : RR S G (ts.reverse ++ td) (vs.reverse ++ tv) tw env σ W H) (hl : vs.length = ts.length)
    (hd : ∀ G, FL S.K G g.dds dvs) (q : PostE S td tv σ Q wx (call1 g m ts env)) : vs.length = g.n ∧ spM S.K g.np m (pick g.sel (vs ++ dvs)) H Q (WE wx σ) := by
  unfold call1 at q
  split at q
  · exact q.elim
  · rename_i bs ds e1 ht
    obtain ⟨hn, hp, G1, tw1, W1, R1, hl2, nr, al⟩ := take_ok R hl hd ht
    refine ⟨hl.trans hn, ?_⟩
    obtain ⟨I, Wa, R3, back, backX⟩ := R1.call hl2 nr
    refine ⟨S.sub H G1 I, ds, Wa, rfl, rfl, hp, R3, ?_⟩
    cases hm : m ds with
    | bad => rw [hm] at q; exact q.elim
    | ex x =>
      rw [hm] at q
      intro cls od tw' G' es σ' W' H' R' xr
      obtain ⟨tw4, R4⟩ := backX _ _ _ _ _ _ R'
      exact q cls od tw4 G' W1 H' R4 xr
    | ok r ds' =>
      rw [hm] at q
      simp only at q
      split at q
      · exact q.elim
      · rename_i e2 hp
        intro vr tw3 G3 W3 H3 hr R'
        obtain ⟨tw4, R4⟩ := back _ _ _ _ _ _ _ hr R'
        obtain ⟨tw5, W5, R5⟩ := R4.putB (nr_slots R') al hp
        exact q vr tw5 G3 W5 H3 R5
/-- C(..): the new instance is the first parameter -/
def make1 (g : Sg) (c : Str) (m : FM) (ts : List D) (e : Env) : Re D := match take0 g ts e with
  | none => .bad
  | some (bs, ds, e1) => match m (.oobj c [] [] :: ds) with
    | .bad => .bad
    | .ex x => .ex x e1
    | .ok .non (self :: ds') => match putB bs ds' e1 with
      | none => .bad
      | some e2 => .ok self e2
    | _ => .bad
theorem make1_ok {S : Sc} {G H : Hp} {td : List D} {tv : List V} {tw : List (List Addr)} {env : Env} {σ : L2.St} {W : List (List Addr)} {ts : List D} {vs : List V} {Q : VK} {dvs : List V} {g : Sg} {m : FM} {wx : WX} {c : Str} (R : RR S G (ts.reverse ++ td) (vs.reverse ++ tv) tw env σ W H) (hl : vs.length = ts.length)
    (hd : ∀ G, FL S.K G g.dds dvs) (q : PostE S td tv σ Q wx (make1 g c m ts env)) : vs.length = g.n ∧ ∀ x dx, H x = none → H dx = none → dx ≠ x →
      spM S.K (g.np + 1) m (.ref x :: pick g.sel (vs ++ dvs)) (upd (upd H dx (.own x)) x (.ins (He.ga S.K c) dx [])) (fun v H2 => v = .non ∧ Q (.ref x) H2) (WE wx σ) := by
  unfold make1 at q
  split at q
  · exact q.elim
  · rename_i bs ds e1 ht
    obtain ⟨hn, hp, G1, tw1, W1, R1, hl2, nr, al⟩ := take_ok R hl hd ht
    refine ⟨hl.trans hn, fun x dx hx hdx hne => ?_⟩
    have R2 := R1.grow (H' := upd H dx (.own x)) (Ext.new hdx)
    have hx2 : (upd H dx (.own x)) x = none := by rw [upd_ne (fun z => hne z.symm)]; exact hx
    have gx : G1 x = none := R1.sub.none hx
    have R3 : RR S G1 (.oobj c [] [] :: (ds ++ td)) (.ref x :: (pick g.sel (vs ++ dvs) ++ tv)) ([x] :: tw1) e1 σ W1 (upd (upd H dx (.own x)) x (.ins (He.ga S.K c) dx [])) := by
      refine R2.newO hx2 ?_
      simp only [O]
      exact ⟨x, dx, [], [], rfl, rfl, upd_same, gx, rfl, by simp [OL]⟩
    obtain ⟨I, Wa, R4, back, backX⟩ := RR.call (ds := .oobj c [] [] :: ds) (vs := .ref x :: pick g.sel (vs ++ dvs)) (td := td) (tv := tv) R3 (by simp [hl2]) (fun i hi => by
      rcases List.mem_cons.mp hi with z | z
      · cases z
      · exact nr i z)
    refine ⟨S.sub (upd (upd H dx (.own x)) x (.ins (He.ga S.K c) dx [])) G1 I, .oobj c [] [] :: ds, Wa, rfl, rfl, by simp [hp], R4, ?_⟩
    cases hm : m (.oobj c [] [] :: ds) with
    | bad => rw [hm] at q; exact q.elim
    | ex x =>
      rw [hm] at q
      intro cls od tw' G' es σ' W' H' R' xr
      obtain ⟨tw4, R5⟩ := backX _ _ _ _ _ _ R'
      exact q cls od tw4 G' W1 H' R5 xr
    | ok r ds' =>
      rw [hm] at q
      cases r <;> first | exact q.elim | skip
      cases ds' with
      | nil => exact q.elim
      | cons self ds' =>
        simp only at q
        split at q
        · exact q.elim
        · rename_i e2 hp
          intro vr tw3 G3 W3 H3 hr R'
          have nr3 := nr_slots R'
          obtain ⟨w0, h0⟩ := R'.top
          have ev : vr = .non := by
            simp only [Tm, O] at h0
            exact h0.2
          obtain ⟨tw4, R5⟩ := back _ _ _ _ _ _ _ hr R'
          obtain ⟨_, tw6, _, R6⟩ := R5.pop
          obtain ⟨tw5, W5, R7⟩ := RR.putB (ds := ds') (td := td) (tv := tv) R6 (fun i hi => nr3 i (List.mem_cons_of_mem _ hi)) al hp
          exact ⟨ev, q _ tw5 G3 W5 H3 R7⟩
/-! ### the expressions -/
def callM (g : Sg) (m : FM) (a : AM) : EM := fun env => bindR (a env) (call1 g m)
def makeM (g : Sg) (c : Str) (m : FM) (a : AM) : EM := fun env => bindR (a env) (make1 g c m)
/-- o.mn(..), o of the class c -/
def meth1 (g : Sg) (c mn : Str) (m : FM) (a : AM) (o : D) (e : Env) : Re D := match deref e o with
  | some (.obj c' ns _) => if c' = c ∧ mn ∉ ns then bindR (a e) fun ts e2 => call1 g m (o :: ts) e2 else .bad
  | some (.oobj c' ns _) => if c' = c ∧ mn ∉ ns then bindR (a e) fun ts e2 => call1 g m (o :: ts) e2 else .bad
  | _ => .bad
def methM (g : Sg) (c mn : Str) (m : FM) (o : EM) (a : AM) : EM := fun env => bindR (o env) (meth1 g c mn m a)
def appN (n k : Nat) (a b : AM) : AM := fun env => bindR (a env) fun xs e1 => bindR (b e1) fun ys e2 => if xs.length = n ∧ ys.length = k then .ok (xs ++ ys) e2 else .bad
section
variable {X : Cx} {xd : Option Addr} {xn : Option Xn} {gd : Bool} {k n : Nat} {f : Addr} {ks : List Str} {x mn c : Str} {p pos apos : Pos} {e o : Expr} {es : List Expr} {kws : List Keyword} {ma mb : AM} {mo : EM} {wx : WX} {m : FM} {g : Sg} {dvs : List V} {nm : Option Str} {kpos : Pos}
theorem mk_nil : PK X [] (tMA (ct X xd xn) wx nilM) := by
  refine ⟨fun pos pins s σ H Q I h => pk_nil.run pos pins s σ H Q I ?_⟩
  obtain ⟨S, G, td, tv, tw, env, W, hC, R, q⟩ := h
  exact q [] tw G W H rfl R
theorem cons_imp {me : EM} : ∀ σ H Q, tMA (ct X xd xn) wx (consM me ma) σ H Q → tCons (tM (ct X xd xn) wx me) (tMA (ct X xd xn) wx ma) σ H Q := fun σ H Q h => by
  obtain ⟨S, G, td, tv, tw, env, W, hC, R, q⟩ := h
  rcases bindA q with ⟨x, e1, h1, q⟩ | ⟨x, e1, h1, q⟩
  · refine tM_mk hC R (.inl ⟨x, e1, h1, fun v tw1 G1 W1 H1 R1 => ?_⟩)
    rcases bindA q with ⟨xs, e2, h2, q⟩ | ⟨y, e2, h2, q⟩
    · refine tMA_mk hC R1 (.inl ⟨xs, e2, h2, fun vs tw2 G2 W2 H2 hl R2 => ?_⟩)
      exact q (v :: vs) tw2 G2 W2 H2 (by simp [hl]) (by simpa using R2)
    · exact tMA_mk hC R1 (.inr ⟨y, e2, h2, PostX.pop q⟩)
  · exact tM_mk hC R (.inr ⟨x, e1, h1, q⟩)
theorem mk_cons {me : EM} (h : PE X e (tM (ct X xd xn) wx me)) (r : PK X kws (tMA (ct X xd xn) wx ma)) : PK X (⟨nm, e, kpos⟩ :: kws) (tMA (ct X xd xn) wx (consM me ma)) :=
  ⟨fun pos pins s σ H Q I q => (pk_cons h r).run pos pins s σ H Q I (cons_imp σ H Q q)⟩
/-- the promise of a callee, as a caller wants it -/
abbrev Ck (gd : Bool) (P : Program) (w : World) (K : PySem.W.Frag) (mg : Str → Option Value) (base : Heap) (k : Nat) (f : Addr) (n : Nat) (ks : List Str) (np : Nat) (sel : List Nat) (dvs : List V) (m : FM) : Prop :=
  FnCk gd P w K mg base k f n ks (fun vs H Q E => spM K np m (pick sel (vs ++ dvs)) H Q E)
theorem me_call (F : Ck gd X.prog X.w X.K X.mg X.base k f g.n [] g.np g.sel dvs m) (hr : Room k X.A) (hgd : gd = true → X.A.guards = some []) (tx : Takes X wx) (hg : Gl X x) (hm : X.mg x = some (.ref f)) (hk : PySem.W.keepIn X.K (.ref f) = true) (hd : ∀ G, FL X.K G g.dds dvs)
    (ha : PA X (e :: es) (tMA (ct X xd xn) wx ma)) (hdb : (x == ("__debug__" : Str)) = false := by decide) (he : starEach (e :: es) X.env = (false, eval e X.env) :: starEach es X.env := by rfl) (hpl : (backTo pos (starEach es X.env)).any (·.1) = false := by rfl) :
    PE X (.Call (.Name x p) (e :: es) [] pos) (tM (ct X xd xn) wx (callM g m ma)) := PEimp (pe_ck F hr hgd tx hg hm hk ha hdb he hpl) fun σ H Q h => by
  obtain ⟨S, G, td, tv, tw, env, W, hC, R, q⟩ := h
  have hK : S.K = X.K := congrArg Ct.K hC
  rcases bindE q with ⟨ts, e1, h1, q⟩ | ⟨x, e1, h1, q⟩
  · refine tMA_mk hC R (.inl ⟨ts, e1, h1, fun vs tw1 G1 W1 H1 hl R1 => ?_⟩)
    obtain ⟨l1, z⟩ := call1_ok R1 hl (hK ▸ hd) q
    exact ⟨l1, rfl, by rw [List.append_nil, ← hK]; exact z⟩
  · exact tMA_mk hC R (.inr ⟨x, e1, h1, q⟩)
theorem me_call0 (F : Ck gd X.prog X.w X.K X.mg X.base k f g.n [] g.np g.sel dvs m) (hr : Room k X.A) (hgd : gd = true → X.A.guards = some []) (tx : Takes X wx) (hg : Gl X x) (hm : X.mg x = some (.ref f)) (hk : PySem.W.keepIn X.K (.ref f) = true) (hd : ∀ G, FL X.K G g.dds dvs)
    (hdb : (x == ("__debug__" : Str)) = false := by decide) : PE X (.Call (.Name x p) [] [] pos) (tM (ct X xd xn) wx (callM g m nilM)) := PEimp (pe_ck0 F hr hgd tx hg hm hk hdb) fun σ H Q h => by
  obtain ⟨S, G, td, tv, tw, env, W, hC, R, q⟩ := h
  have hK : S.K = X.K := congrArg Ct.K hC
  obtain ⟨l1, z⟩ := call1_ok (ts := []) (vs := []) R rfl (hK ▸ hd) q
  exact ⟨l1, rfl, by rw [← hK]; exact z⟩
theorem me_callK (F : Ck gd X.prog X.w X.K X.mg X.base k f n ks g.np g.sel dvs m) (hn : n + ks.length = g.n) (hr : Room k X.A) (hgd : gd = true → X.A.guards = some []) (tx : Takes X wx) (hg : Gl X x) (hm : X.mg x = some (.ref f)) (hk : PySem.W.keepIn X.K (.ref f) = true) (hd : ∀ G, FL X.K G g.dds dvs)
    (ha : PA X (e :: es) (tMA (ct X xd xn) wx ma)) (hb : PK X kws (tMA (ct X xd xn) wx mb)) (hkl : kws.length = ks.length := by rfl) (hall : (backToKw pos (keywordEach kws X.env)).all (·.1.isSome) = true := by rfl) (hks : (backToKw pos (keywordEach kws X.env)).filterMap (·.1) = ks := by rfl)
    (hdb : (x == ("__debug__" : Str)) = false := by decide) (he : starEach (e :: es) X.env = (false, eval e X.env) :: starEach es X.env := by rfl)
    (hpl : ((backTo pos (starEach (e :: es) X.env)).any (·.1) || (backToKw pos (keywordEach kws X.env)).any (·.1.isNone)) = false := by rfl) :
    PE X (.Call (.Name x p) (e :: es) kws pos) (tM (ct X xd xn) wx (callM g m (appN n ks.length ma mb))) := PEimp (pe_ckK F hr hgd tx hg hm hk ha hb hall hks hdb he hpl) fun σ H Q h => by
  obtain ⟨S, G, td, tv, tw, env, W, hC, R, q⟩ := h
  have hK : S.K = X.K := congrArg Ct.K hC
  unfold callM at q
  rcases bindE q with ⟨ts, e2, h1, q⟩ | ⟨x, e2, h1, q⟩
  · cases h2 : ma env with
    | ok xs e1 =>
      refine tMA_mk hC R (.inl ⟨xs, e1, h2, fun vs tw1 G1 W1 H1 hl R1 => ?_⟩)
      cases h3 : mb e1 with
      | ok ys e3 =>
        refine tMA_mk hC R1 (.inl ⟨ys, e3, h3, fun zs tw2 G2 W2 H2 hl2 R2 => ?_⟩)
        simp only [appN, h2, h3, bindR] at h1
        split at h1
        · rename_i hc
          cases h1
          have R3 : RR S G2 ((xs ++ ys).reverse ++ td) ((vs ++ zs).reverse ++ tv) tw2 e2 σ W2 H2 := by simpa using R2
          obtain ⟨l1, z⟩ := call1_ok R3 (by simp [hl, hl2]) (hK ▸ hd) q
          exact ⟨hl.trans hc.1, hl2.trans hc.2, by rw [← hK]; exact z⟩
        · cases h1
      | ex x e3 => simp only [appN, h2, h3, bindR] at h1; cases h1
      | bad => simp only [appN, h2, h3, bindR] at h1; cases h1
    | ex x e1 => simp only [appN, h2, bindR] at h1; cases h1
    | bad => simp only [appN, h2, bindR] at h1; cases h1
  · cases h2 : ma env with
    | ok xs e1 =>
      refine tMA_mk hC R (.inl ⟨xs, e1, h2, fun vs tw1 G1 W1 H1 hl R1 => ?_⟩)
      cases h3 : mb e1 with
      | ok ys e3 => simp only [appN, h2, h3, bindR] at h1; split at h1 <;> cases h1
      | ex x e3 =>
        simp only [appN, h2, h3, bindR] at h1
        cases h1
        refine tMA_mk hC R1 (.inr ⟨_, _, h3, fun cls od tw' G' W' H' R' xr => ?_⟩)
        have : ∃ tw2, RR S G' td tv tw2 e2 σ W' H' := by
          clear h2 q h3
          have hl2 : vs.reverse.length = xs.reverse.length := by simp [hl]
          revert R' hl2
          generalize vs.reverse = vr, xs.reverse = xr2
          intro R' hl2
          induction xr2 generalizing vr tw' with
          | nil =>
            cases vr with
            | nil => exact ⟨_, R'⟩
            | cons => cases hl2
          | cons d xr2 ih =>
            cases vr with
            | nil => cases hl2
            | cons v vr =>
              obtain ⟨_, tw2, _, R2⟩ := RR.pop (td := xr2 ++ td) (tv := vr ++ tv) R'
              exact ih tw2 vr R2 (by simpa using hl2)
        obtain ⟨tw2, R2⟩ := this
        exact q cls od tw2 G' W' H' R2 xr
      | bad => simp only [appN, h2, h3, bindR] at h1; cases h1
    | ex x e1 =>
      simp only [appN, h2, bindR] at h1
      cases h1
      exact tMA_mk hC R (.inr ⟨_, _, h2, q⟩)
    | bad => simp only [appN, h2, bindR] at h1; cases h1
theorem me_callK0 (F : Ck gd X.prog X.w X.K X.mg X.base k f 0 ks g.np g.sel dvs m) (hn : ks.length = g.n) (hr : Room k X.A) (hgd : gd = true → X.A.guards = some []) (tx : Takes X wx) (hg : Gl X x) (hm : X.mg x = some (.ref f)) (hk : PySem.W.keepIn X.K (.ref f) = true) (hd : ∀ G, FL X.K G g.dds dvs)
    (hb : PK X kws (tMA (ct X xd xn) wx mb)) (hall : (backToKw pos (keywordEach kws X.env)).all (·.1.isSome) = true := by rfl) (hks : (backToKw pos (keywordEach kws X.env)).filterMap (·.1) = ks := by rfl)
    (hdb : (x == ("__debug__" : Str)) = false := by decide)
    (hpl : ((backTo pos (starEach [] X.env)).any (·.1) || (backToKw pos (keywordEach kws X.env)).any (·.1.isNone)) = false := by rfl) :
    PE X (.Call (.Name x p) [] kws pos) (tM (ct X xd xn) wx (callM g m mb)) := PEimp (pe_ckK0 F hr hgd tx hg hm hk hb hall hks hdb hpl) fun σ H Q h => by
  obtain ⟨S, G, td, tv, tw, env, W, hC, R, q⟩ := h
  have hK : S.K = X.K := congrArg Ct.K hC
  rcases bindE q with ⟨ts, e1, h1, q⟩ | ⟨x, e1, h1, q⟩
  · refine tMA_mk hC R (.inl ⟨ts, e1, h1, fun vs tw1 G1 W1 H1 hl R1 => ?_⟩)
    obtain ⟨l1, z⟩ := call1_ok R1 hl (hK ▸ hd) q
    exact ⟨rfl, l1.trans hn.symm, by rw [← hK]; exact z⟩
  · exact tMA_mk hC R (.inr ⟨x, e1, h1, q⟩)
theorem lookup_none {ns : List Str} {vs : List V} {x : Str} (h : x ∉ ns) : (ns.zip vs).lookup x = none := by
  induction ns generalizing vs with
  | nil => rfl
  | cons a ns ih =>
    cases vs with
    | nil => rfl
    | cons v vs =>
      simp only [List.zip_cons_cons, List.lookup]
      have : (x == a) = false := beq_eq_false_iff_ne.mpr fun z => h (z ▸ List.mem_cons_self ..)
      rw [this]
      exact ih fun z => h (List.mem_cons_of_mem _ z)
theorem meth1_ok {S : Sc} {G H : Hp} {td : List D} {tv : List V} {tw : List (List Addr)} {env : Env} {σ : L2.St} {W : List (List Addr)} {d : D} {v : V} {Q : VK} (R : RR S G (d :: td) (v :: tv) tw env σ W H) (q : PostE S td tv σ Q wx (meth1 g c mn m ma d env)) :
    (∃ a dx fs, v = .ref a ∧ H a = some (.ins (He.ga S.K c) dx fs) ∧ fs.lookup mn = none) ∧ PostE S td tv σ Q wx (bindR (ma env) fun ts e2 => call1 g m (d :: ts) e2) := by
  unfold meth1 at q
  split at q
  · rename_i c' ns xs hd
    split at q
    · rename_i hc
      obtain ⟨w', o⟩ := R.look hd
      simp only [O, F] at o
      obtain ⟨_, a, dx, vs, rfl, h1, h2, h3⟩ := o
      rw [hc.1] at h1
      exact ⟨⟨a, dx, _, rfl, R.sub.get h1, lookup_none hc.2⟩, q⟩
    · exact q.elim
  · rename_i c' ns xs hd
    split at q
    · rename_i hc
      obtain ⟨w', o⟩ := R.look hd
      simp only [O] at o
      obtain ⟨a, dx, vs, fq, rfl, _, h1, h2, h3, _⟩ := o
      rw [hc.1] at h1
      exact ⟨⟨a, dx, _, rfl, h1, lookup_none hc.2⟩, q⟩
    · exact q.elim
  · exact q.elim
theorem me_meth {pl : Sem Bool} (ho : PE X o (tM (ct X xd xn) wx mo)) (cl : Cls X.K (He.ga X.K c)) (hmt : Meth X.K (He.ga X.K c) mn f) (F : Ck gd X.prog X.w X.K X.mg X.base k f g.n [] g.np g.sel dvs m) (hr : Room k X.A) (hgd : gd = true → X.A.guards = some []) (tx : Takes X wx) (hd : ∀ G, FL X.K G g.dds dvs)
    (ha : PA X (e :: es) (tMA (ct X xd xn) wx ma)) (hst : starEach (e :: es) X.env = (false, eval e X.env) :: starEach es X.env := by rfl) (hpl : (backTo pos (starEach es X.env)).any (·.1) = false := by rfl)
    (ht : eval (.Call (.Attribute o mn apos) (e :: es) [] pos) X.env = (do
      let ov ← eval o X.env
      standAt apos.atName
      let (f, first) ← holding [ov] (getMethod ov mn pl)
      callWith pos f first (backTo pos (starEach (e :: es) X.env)) (backToKw pos (keywordEach [] X.env))) := by rfl) :
    PE X (.Call (.Attribute o mn apos) (e :: es) [] pos) (tM (ct X xd xn) wx (methM g c mn m mo ma)) := PEimp (pe_mck (pl := pl) ho cl hmt F hr hgd tx ha hst hpl ht) fun σ H Q h => by
  obtain ⟨S, G, td, tv, tw, env, W, hC, R, q⟩ := h
  have hK : S.K = X.K := congrArg Ct.K hC
  rcases bindE q with ⟨d, e1, h1, q⟩ | ⟨x, e1, h1, q⟩
  · refine tM_mk hC R (.inl ⟨d, e1, h1, fun v tw1 G1 W1 H1 R1 => ?_⟩)
    obtain ⟨⟨a, dx, fs, rfl, ea, lk⟩, q⟩ := meth1_ok R1 q
    refine ⟨a, dx, fs, rfl, hK ▸ ea, lk, ?_⟩
    rcases bindE q with ⟨ts, e2, h2, q⟩ | ⟨x, e2, h2, q⟩
    · refine tMA_mk hC R1 (.inl ⟨ts, e2, h2, fun vs tw2 G2 W2 H2 hl R2 => ?_⟩)
      have R3 : RR S G2 ((d :: ts).reverse ++ td) ((V.ref a :: vs).reverse ++ tv) tw2 e2 σ W2 H2 := by simpa using R2
      obtain ⟨l1, z⟩ := call1_ok R3 (by simp [hl]) (hK ▸ hd) q
      exact ⟨by simpa using l1, by rw [← hK]; exact z⟩
    · exact tMA_mk hC R1 (.inr ⟨x, e2, h2, PostX.pop q⟩)
  · exact tM_mk hC R (.inr ⟨x, e1, h1, q⟩)
theorem me_meth0 {pl : Sem Bool} (ho : PE X o (tM (ct X xd xn) wx mo)) (cl : Cls X.K (He.ga X.K c)) (hmt : Meth X.K (He.ga X.K c) mn f) (F : Ck gd X.prog X.w X.K X.mg X.base k f g.n [] g.np g.sel dvs m) (hr : Room k X.A) (hgd : gd = true → X.A.guards = some []) (tx : Takes X wx) (hd : ∀ G, FL X.K G g.dds dvs)
    (ht : eval (.Call (.Attribute o mn apos) [] [] pos) X.env = (do
      let ov ← eval o X.env
      standAt apos.atName
      let (f, first) ← holding [ov] (getMethod ov mn pl)
      callWith pos f first (backTo pos (starEach [] X.env)) (backToKw pos (keywordEach [] X.env))) := by rfl) :
    PE X (.Call (.Attribute o mn apos) [] [] pos) (tM (ct X xd xn) wx (methM g c mn m mo nilM)) := PEimp (pe_mck0 (pl := pl) ho cl hmt F hr hgd tx ht) fun σ H Q h => by
  obtain ⟨S, G, td, tv, tw, env, W, hC, R, q⟩ := h
  have hK : S.K = X.K := congrArg Ct.K hC
  rcases bindE q with ⟨d, e1, h1, q⟩ | ⟨x, e1, h1, q⟩
  · refine tM_mk hC R (.inl ⟨d, e1, h1, fun v tw1 G1 W1 H1 R1 => ?_⟩)
    obtain ⟨⟨a, dx, fs, rfl, ea, lk⟩, q⟩ := meth1_ok R1 q
    refine ⟨a, dx, fs, rfl, hK ▸ ea, lk, ?_⟩
    obtain ⟨l1, z⟩ := call1_ok (ts := [d]) (vs := [V.ref a]) R1 rfl (hK ▸ hd) q
    exact ⟨l1, by rw [← hK]; exact z⟩
  · exact tM_mk hC R (.inr ⟨x, e1, h1, q⟩)
/-- the constructor's promise -/
abbrev KCk (gd : Bool) (P : Program) (w : World) (K : PySem.W.Frag) (mg : Str → Option Value) (base : Heap) (k : Nat) (f : Addr) (n : Nat) (np : Nat) (sel : List Nat) (dvs : List V) (m : FM) : Prop :=
  Ck gd P w K mg base k f (n + 1) [] (np + 1) (0 :: sel.map (· + 1)) dvs m
theorem me_make (M : Mk X.K (He.ga X.K c) f) (F : KCk gd X.prog X.w X.K X.mg X.base k f g.n g.np g.sel dvs m) (hr : Room (k + 1) X.A) (hgd : gd = true → X.A.guards = some []) (tx : Takes X wx) (hg : Gl X x) (hm : X.mg x = some (.ref (He.ga X.K c))) (hd : ∀ G, FL X.K G g.dds dvs)
    (ha : PA X (e :: es) (tMA (ct X xd xn) wx ma)) (hdb : (x == ("__debug__" : Str)) = false := by decide) (he : starEach (e :: es) X.env = (false, eval e X.env) :: starEach es X.env := by rfl) (hpl : (backTo pos (starEach es X.env)).any (·.1) = false := by rfl) :
    PE X (.Call (.Name x p) (e :: es) [] pos) (tM (ct X xd xn) wx (makeM g c m ma)) := PEimp (pe_kck M F hr hgd tx hg hm ha hdb he hpl) fun σ H Q h => by
  obtain ⟨S, G, td, tv, tw, env, W, hC, R, q⟩ := h
  have hK : S.K = X.K := congrArg Ct.K hC
  rcases bindE q with ⟨ts, e1, h1, q⟩ | ⟨x, e1, h1, q⟩
  · refine tMA_mk hC R (.inl ⟨ts, e1, h1, fun vs tw1 G1 W1 H1 hl R1 => ?_⟩)
    obtain ⟨l1, z⟩ := make1_ok R1 hl (hK ▸ hd) q
    refine ⟨by rw [l1], rfl, fun x dx hx hdx hne => ?_⟩
    have z := z x dx hx hdx hne
    rw [List.append_nil, ← hK]
    show spM _ _ _ (pick _ (V.ref x :: (vs ++ dvs))) _ _ _
    rw [pick_self]
    exact z
  · exact tMA_mk hC R (.inr ⟨x, e1, h1, q⟩)
theorem me_make0 (M : Mk X.K (He.ga X.K c) f) (F : KCk gd X.prog X.w X.K X.mg X.base k f g.n g.np g.sel dvs m) (hr : Room (k + 1) X.A) (hgd : gd = true → X.A.guards = some []) (tx : Takes X wx) (hg : Gl X x) (hm : X.mg x = some (.ref (He.ga X.K c))) (hd : ∀ G, FL X.K G g.dds dvs)
    (hdb : (x == ("__debug__" : Str)) = false := by decide) : PE X (.Call (.Name x p) [] [] pos) (tM (ct X xd xn) wx (makeM g c m nilM)) := PEimp (pe_kck0 M F hr hgd tx hg hm hdb) fun σ H Q h => by
  obtain ⟨S, G, td, tv, tw, env, W, hC, R, q⟩ := h
  have hK : S.K = X.K := congrArg Ct.K hC
  obtain ⟨l1, z⟩ := make1_ok (ts := []) (vs := []) R rfl (hK ▸ hd) q
  refine ⟨by rw [← l1], rfl, fun x dx hx hdx hne => ?_⟩
  have z := z x dx hx hdx hne
  rw [← hK]
  show spM _ _ _ (pick _ (V.ref x :: ([] ++ dvs))) _ _ _
  rw [pick_self]
  exact z
end
end Mx
set_option Elab.async false
set_option linter.all false
set_option maxRecDepth 100000
set_option maxHeartbeats 1000000
/-! Mz: zip(a, b, strict=False) -/
namespace Mx
open PySem PySem.Spec PyProof.Rows
open PySem.Sem (wp)
theorem tc_zipS (a b : Value) : checkTypeCall "zip" ⟨[a, b], [("strict", .bool false)]⟩ = pure () := by kernel_rfl
theorem nc_zipS (a b : Value) : checkBuiltinCall "zip.__new__" ⟨[.type "zip", a, b], [("strict", .bool false)]⟩ = pure () := by kernel_rfl
theorem ao_zipS (o a b : Value) : argsOk "object.__init__" ⟨[o, a, b], [("strict", .bool false)]⟩ := by
  unfold argsOk; rw [signature?_of (id := "object.__init__") (n := ['_', '_', 't', 'i', 'n', 'i', '_', '_']) (o := ['t', 'c', 'e', 'j', 'b', 'o']) (by kernel_rfl) F.owner_object]; kernel_rfl
section
variable {prog : Program} {w : World} {A : Around} {E : Value → Shared → Prop} {s : Shared}
theorem typeCall_kw {T newId initId : String} {Bn Bi : Builtin} {args : List Value} {kw : List (Str × Value)} {S : PySem.Spec} {Q Q₁ : Value → Shared → Prop} (ft : TypeCalled T newId initId)
    (hc1 : checkTypeCall T ⟨args, kw⟩ = pure ()) (hc2 : checkBuiltinCall newId ⟨.type T :: args, kw⟩ = pure ()) (en : entryFor table newId = some Bn) (ei : entryFor table initId = some Bi) (gn : Meets (Bn ⟨.type T :: args, kw⟩) S)
    (hS : S A.in1 (wants Q₁ E) s)
    (nxt : ∀ obj s₁, Q₁ obj s₁ → s₁.TypeIs obj T ∧ argsOk initId ⟨obj :: args, kw⟩ ∧ ∃ Si, Meets (Bi ⟨obj :: args, kw⟩) Si ∧ Si A.in1 (wants (fun r s₂ => r = .none ∧ Q obj s₂) E) s₁) :
    wpAny (model prog w) A (call (.type T) args kw) Q E s := by
  obtain ⟨c0, tl0, m0⟩ := ft.mro
  have m1 := ft.made
  have m2 := ft.sub
  refine wpAny_call (codeAny_of_tree ?_)
  show wpAny _ _ (callAny (.type T) ⟨args, kw⟩) _ _ _
  refine wpAny_pure ⟨Code.quiet_builtin _ (by decide +kernel), codeAny_builtin F.entry_type_call ?_⟩
  rw [show A.under (.builtin "type.__call__" ⟨.type T :: args, kw⟩) = A.in1 from Around.under_plain (weight_type_call_type T args kw) (units_type_call_type T args kw)]
  have n1 := ft.notType
  have n2 := ft.canCreate
  repeat (any_goals (first | assumption | wp_step))
  refine codeAny_mono (codeAny_call_builtin ft.plain en (wpAny_of_eq hc2 (gn prog w A.in1 _ s hS))) fun r s₁ hr => ?_
  cases r with
  | error e => exact hr
  | ok fl =>
    cases fl with
    | ret obj =>
      obtain ⟨hT, hok, Si, gi, hsi⟩ := nxt _ _ hr
      have l1 := ft.init.lookup
      have l2 := ft.init.bind obj
      repeat (any_goals (first | assumption | wp_step))
      refine codeAny_mono (codeAny_call_builtin ft.init.plain ei (ft.init.check _ _ _ _ _ _ _ _ hT hok (gi prog w A.in1 _ s₁ hsi))) fun r₂ s₂ hr₂ => ?_
      cases r₂ with
      | error e => exact hr₂
      | ok fl₂ =>
        cases fl₂ with
        | ret r =>
          obtain ⟨rfl, hq⟩ := hr₂
          repeat (any_goals (first | assumption | wp_step))
        | next => exact hr₂.elim
        | brk => exact hr₂.elim
        | cont => exact hr₂.elim
    | next => exact hr.elim
    | brk => exact hr.elim
    | cont => exact hr.elim
theorem init_zipS {self a b : Value} :
    Meets (Builtin.«object.__init__» ⟨[self, a, b], [("strict", .bool false)]⟩) (fun _ R s => s.TypeIs self "zip" ∧ R (.ok (.ret .none)) s) := by
  have hl := F.called_zip.init.lookup
  have hm := F.called_zip.made
  refine Meets.of_wp fun prog w A R s hs => ?_
  obtain ⟨hT, hq⟩ := hs
  repeat (any_goals (first | assumption | wp_step))
  exact ⟨_, rfl, hq⟩
theorem new_zipS (l1 l2 : Addr) (xs ys : Array Value) :
    Meets (Builtin.«zip.__new__» ⟨[.type "zip", .ref l1, .ref l2], [("strict", .bool false)]⟩) (fun _ R s => s.heap.IsList l1 xs ∧ s.heap.IsList l2 ys ∧
      R (.ok (.ret (.ref (zipH4 s.heap l1 l2).objs.size))) { s with heap := zipH5 s.heap l1 l2 }) :=
  .of_wp fun prog w A R s h => by
    obtain ⟨hp, g, d, tk, os⟩ := s; obtain ⟨hl1, hl2, h⟩ := h
    have hs0 := sub_zip
    have q1 : Heap.IsList (Shared.heap ⟨hp, g, d, tk, os⟩) l1 xs := hl1
    have q2 : Heap.IsList (Shared.heap ⟨hp.push { cls := .type "list_iterator", data := .fields #[.ref l1, .int 0 0] }, g, d, tk, os⟩) l2 ys := Heap.IsList.push hl2 _
    wp_walk using wpAny_pyIter_list q1, wpAny_pyIter_list q2
    exact ⟨_, rfl, h⟩
theorem new_zipST (l1 l2 : Addr) (xs ys : Array Value) :
    Meets (Builtin.«zip.__new__» ⟨[.type "zip", .ref l1, .ref l2], [("strict", .bool false)]⟩) (fun _ R s => s.heap.IsTuple l1 xs ∧ s.heap.IsTuple l2 ys ∧
      R (.ok (.ret (.ref (RZ.zipTH4 s.heap l1 l2).objs.size))) { s with heap := RZ.zipTH5 s.heap l1 l2 }) :=
  .of_wp fun prog w A R s h => by
    obtain ⟨hp, g, d, tk, os⟩ := s; obtain ⟨hl1, hl2, h⟩ := h
    have hs0 := sub_zip
    have q1 : Heap.IsTuple (Shared.heap ⟨hp, g, d, tk, os⟩) l1 xs := hl1
    have q2 : Heap.IsTuple (Shared.heap ⟨hp.push { cls := .type "tuple_iterator", data := .fields #[.ref l1, .int 0 0] }, g, d, tk, os⟩) l2 ys := Heap.IsTuple.push hl2 _
    wp_walk using wpAny_pyIter_tuple q1, wpAny_pyIter_tuple q2
    exact ⟨_, rfl, h⟩
theorem call_zipS {l1 l2 : Addr} {xs ys : Array Value} {Q : Value → Shared → Prop} (q1 : s.heap.IsList l1 xs) (q2 : s.heap.IsList l2 ys)
    (h : ∀ h', IsZip h' (s.heap.objs.size + 4) (s.heap.objs.size + 2) (s.heap.objs.size + 3) .none → IsPair h' (s.heap.objs.size + 2) (.ref s.heap.objs.size) (.ref (s.heap.objs.size + 1)) →
      IsPair h' (s.heap.objs.size + 3) .none .none → h'.IsListIter s.heap.objs.size l1 0 → h'.IsListIter (s.heap.objs.size + 1) l2 0 →
      (∀ c o, s.heap.get? c = some o → h'.get? c = some o) → Q (.ref (s.heap.objs.size + 4)) { s with heap := h' }) :
    wpAny (model prog w) A (call (.type "zip") [.ref l1, .ref l2] [("strict", .bool false)]) Q E s := by
  have n1 : (zipH1 s.heap l1).objs.size = s.heap.objs.size + 1 := Heap.size_push ..
  have n2 : (zipH2 s.heap l1 l2).objs.size = s.heap.objs.size + 2 := by rw [Heap.size_push, n1]
  have n3 : (zipH3 s.heap l1 l2).objs.size = s.heap.objs.size + 3 := by rw [Heap.size_push, n2]
  have n4 : (zipH4 s.heap l1 l2).objs.size = s.heap.objs.size + 4 := by rw [Heap.size_push, n3]
  have up : ∀ {c : Addr} {o : Obj} (o' : Obj) {hh : Heap}, hh.get? c = some o → (hh.push o').get? c = some o := by intro c o o' hh e; exact Heap.get?_push_of_some _ e
  have p5 : (zipH5 s.heap l1 l2).get? (zipH4 s.heap l1 l2).objs.size = some _ := Heap.get?_push_size _ rfl
  have p4 : (zipH5 s.heap l1 l2).get? (zipH3 s.heap l1 l2).objs.size = some _ := up _ (Heap.get?_push_size _ rfl)
  have p3 : (zipH5 s.heap l1 l2).get? (zipH2 s.heap l1 l2).objs.size = some _ := up _ (up _ (Heap.get?_push_size _ rfl))
  have p2 : (zipH5 s.heap l1 l2).get? (zipH1 s.heap l1).objs.size = some _ := up _ (up _ (up _ (Heap.get?_push_size _ rfl)))
  have p1 : (zipH5 s.heap l1 l2).get? s.heap.objs.size = some _ := up _ (up _ (up _ (up _ (Heap.get?_push_size _ rfl))))
  refine typeCall_kw F.called_zip (tc_zipS _ _) (nc_zipS _ _) F.entry_zip_new F.entry_object_init (new_zipS l1 l2 xs ys) (Q₁ := fun obj s1 => obj = .ref (zipH4 s.heap l1 l2).objs.size ∧ s1 = { s with heap := zipH5 s.heap l1 l2 }) ⟨q1, q2, rfl, rfl⟩ fun obj s1 hq => ?_
  obtain ⟨rfl, rfl⟩ := hq
  have ty : Shared.TypeIs { s with heap := zipH5 s.heap l1 l2 } (.ref (zipH4 s.heap l1 l2).objs.size) "zip" := ⟨_, p5, rfl⟩
  refine ⟨ty, ao_zipS _ _ _, _, init_zipS, ty, rfl, ?_⟩
  rw [n2, n3, n4] at p5
  rw [n1, n2] at p3
  rw [n3] at p4
  rw [n1] at p2
  rw [n4]
  exact h _ p5 p3 p4 ⟨_, p1, rfl, rfl⟩ ⟨_, p2, rfl, rfl⟩ fun c o x => up _ (up _ (up _ (up _ (up _ x))))
theorem call_zipST {l1 l2 : Addr} {xs ys : Array Value} {Q : Value → Shared → Prop} (q1 : s.heap.IsTuple l1 xs) (q2 : s.heap.IsTuple l2 ys)
    (h : ∀ h', IsZip h' (s.heap.objs.size + 4) (s.heap.objs.size + 2) (s.heap.objs.size + 3) .none → IsPair h' (s.heap.objs.size + 2) (.ref s.heap.objs.size) (.ref (s.heap.objs.size + 1)) →
      IsPair h' (s.heap.objs.size + 3) .none .none → h'.IsTupleIter s.heap.objs.size l1 0 → h'.IsTupleIter (s.heap.objs.size + 1) l2 0 →
      (∀ c o, s.heap.get? c = some o → h'.get? c = some o) → Q (.ref (s.heap.objs.size + 4)) { s with heap := h' }) :
    wpAny (model prog w) A (call (.type "zip") [.ref l1, .ref l2] [("strict", .bool false)]) Q E s := by
  have n1 : (RZ.zipTH1 s.heap l1).objs.size = s.heap.objs.size + 1 := Heap.size_push ..
  have n2 : (RZ.zipTH2 s.heap l1 l2).objs.size = s.heap.objs.size + 2 := by rw [Heap.size_push, n1]
  have n3 : (RZ.zipTH3 s.heap l1 l2).objs.size = s.heap.objs.size + 3 := by rw [Heap.size_push, n2]
  have n4 : (RZ.zipTH4 s.heap l1 l2).objs.size = s.heap.objs.size + 4 := by rw [Heap.size_push, n3]
  have up : ∀ {c : Addr} {o : Obj} (o' : Obj) {hh : Heap}, hh.get? c = some o → (hh.push o').get? c = some o := by intro c o o' hh e; exact Heap.get?_push_of_some _ e
  have p5 : (RZ.zipTH5 s.heap l1 l2).get? (RZ.zipTH4 s.heap l1 l2).objs.size = some _ := Heap.get?_push_size _ rfl
  have p4 : (RZ.zipTH5 s.heap l1 l2).get? (RZ.zipTH3 s.heap l1 l2).objs.size = some _ := up _ (Heap.get?_push_size _ rfl)
  have p3 : (RZ.zipTH5 s.heap l1 l2).get? (RZ.zipTH2 s.heap l1 l2).objs.size = some _ := up _ (up _ (Heap.get?_push_size _ rfl))
  have p2 : (RZ.zipTH5 s.heap l1 l2).get? (RZ.zipTH1 s.heap l1).objs.size = some _ := up _ (up _ (up _ (Heap.get?_push_size _ rfl)))
  have p1 : (RZ.zipTH5 s.heap l1 l2).get? s.heap.objs.size = some _ := up _ (up _ (up _ (up _ (Heap.get?_push_size _ rfl))))
  refine typeCall_kw F.called_zip (tc_zipS _ _) (nc_zipS _ _) F.entry_zip_new F.entry_object_init (new_zipST l1 l2 xs ys) (Q₁ := fun obj s1 => obj = .ref (RZ.zipTH4 s.heap l1 l2).objs.size ∧ s1 = { s with heap := RZ.zipTH5 s.heap l1 l2 }) ⟨q1, q2, rfl, rfl⟩ fun obj s1 hq => ?_
  obtain ⟨rfl, rfl⟩ := hq
  have ty : Shared.TypeIs { s with heap := RZ.zipTH5 s.heap l1 l2 } (.ref (RZ.zipTH4 s.heap l1 l2).objs.size) "zip" := ⟨_, p5, rfl⟩
  refine ⟨ty, ao_zipS _ _ _, _, init_zipS, ty, rfl, ?_⟩
  rw [n2, n3, n4] at p5
  rw [n1, n2] at p3
  rw [n3] at p4
  rw [n1] at p2
  rw [n4]
  exact h _ p5 p3 p4 ⟨_, p1, rfl, rfl⟩ ⟨_, p2, rfl, rfl⟩ fun c o x => up _ (up _ (up _ (up _ (up _ x))))
theorem callWith_typeS {M : Model} {A : Around} {E : Value → Shared → Prop} {s : Shared} {pos : Pos} {T : String} {first : List Value} {args : List (Bool × Sem Value)} {kw : List (Option Str × Sem Value)} {Q : Value → Shared → Prop} (hp : args.any (·.1) = false) (hk : kw.any (·.1.isNone) = false)
    (h : wpAny M A (evalArgs (.type T) true args kw) (fun a s1 => wpAny M A (call (.type T) (first ++ a.pos) a.kw) Q E s1) E s) : wpAny M A (callWith pos (.type T) first args kw) Q E s := by
  unfold callWith
  refine wpAny_bind (wpAny_holding (wpAny_mono h (fun a s1 h1 => wpAny_bind (wpAny_standAt ?_)) fun _ _ z => z))
  simp only [hp, hk, Bool.or_false]
  refine wpAny_bind (wpAny_pure ?_)
  exact wpAny_bind (wpAny_mono h1 (fun r s2 hr => wpAny_bind (wpAny_holding (wpAny_point (wpAny_pure hr)))) fun _ _ z => z)
end
open L2 in
/-- for .. in zip(a, b, strict=False): two lists, or two tuples -/
theorem pi_zipS {X : Cx} {e e2 : Expr} {ta : TA} {p pos tpos kp vp : Pos} {elts : List Expr} {kk j : Nat} (hg : Gl X "zip") (hm : X.mg "zip" = none) (ha : PA X [e, e2] ta)
    (hs : backTo pos (starEach [e, e2] X.env) = (false, eval e X.env) :: backTo pos (starEach [e2] X.env) := by rfl) (hpl : (backTo pos (starEach [e, e2] X.env)).any (·.1) = false := by rfl) :
    PI X (.Tuple elts kk tpos) (.Call (.Name "zip" p) [e, e2] [⟨some "strict", .Constant (.bool false) j vp, kp⟩] pos) (RZ.iZipA X.K ta) := by
  refine ⟨fun pins s σ H R I h => ?_⟩
  refine wpAny_Call_Name_kw (ld_blt I hg hm PyProof.Rows.boot_zip (callWith_typeS hpl rfl ?_))
  have h2 := ha.run pos pins s σ H _ I h
  rw [hs] at h2 ⊢
  refine evalArgs_kwB rfl (thn h2 fun us s1 ⟨vs, H1, I1, r1, q1⟩ => ?_)
  have h3 : PK X [⟨some "strict", .Constant (.bool false) j vp, kp⟩] (tCons (tC (.bl false)) tNil) := pk_cons pe_bl pk_nil
  refine thn (h3.run pos pins s1 σ H1 (fun ws H2 => ws = [V.bl false] ∧ H2 = H1) I1 ⟨rfl, rfl⟩) fun ws s2 ⟨zs, H2, I2, r2, e2, e3⟩ => ?_
  subst e2 e3
  cases r2 with
  | cons rb rn =>
    cases rn
    cases rb
    obtain ⟨a, b, xs, ys, ex, q1⟩ := q1
    subst ex
    cases r1 with
    | cons r rr =>
      cases rr with
      | cons r' rr =>
        cases rr
        cases r
        cases r'
        have fr : ∀ c, c ∈ [s2.heap.objs.size + 4, s2.heap.objs.size + 2, s2.heap.objs.size + 3, s2.heap.objs.size, s2.heap.objs.size + 1] → FpOk X pins H2 c := fun c hc => by
          have hle : s2.heap.objs.size ≤ c := by
            simp only [List.mem_cons, List.not_mem_nil, or_false] at hc
            rcases hc with z | z | z | z | z <;> subst z <;> omega
          exact I2.fpOk hle (I2.hok.fresh hle)
        rcases q1 with ⟨hqx, hqy, q⟩ | ⟨hqx, hqy, q⟩
        · obtain ⟨_, _, p1, _⟩ := I2.list hqx
          obtain ⟨_, _, p2, _⟩ := I2.list hqy
          refine call_zipS p1.isList p2.isList fun h' hz hTI hTO h1 h2 hk => wpAny_pyIter_zip hz ?_
          exact ⟨_, _, _, _, H2, rfl, I2.kept (t' := s2.toks) hk, turn_zip (PySem.W.ktu_apart s2.heap.objs.size a b p1.lt p2.lt), ⟨hz, hTI, ⟨_, _, hTO⟩, h1, h2⟩, fr, q⟩
        · obtain ⟨i1, _, p1, _⟩ := I2.tuple hqx
          obtain ⟨i2, _, p2, _⟩ := I2.tuple hqy
          obtain ⟨_, ho1, _⟩ := id p1
          obtain ⟨_, ho2, _⟩ := id p2
          refine call_zipST (show s2.heap.IsTuple a i1.toArray from p1) (show s2.heap.IsTuple b i2.toArray from p2) fun h' hz hTI hTO h1 h2 hk => wpAny_pyIter_zip hz ?_
          exact ⟨_, _, _, _, H2, rfl, I2.kept (t' := s2.toks) hk, RZ.turn_zipT (PySem.W.ktu_apart s2.heap.objs.size a b (Heap.lt_size ho1) (Heap.lt_size ho2)), ⟨hz, hTI, ⟨_, _, hTO⟩, h1, h2⟩, fr, q⟩
end Mx
set_option Elab.async false
set_option linter.all false
set_option maxRecDepth 100000
set_option maxHeartbeats 1000000
/-! Mx9: what a loop walks; for -/
namespace Mx
open PySem PySem.Spec L2 PyProof.Rows
/-- J walks the frozen items ds, whatever the state -/
def Wk (K : PySem.W.Frag) (J : It) (G0 : Hp) (ds : List D) : Prop := NR ds ∧ ∀ (i : Nat) (S : Sc) (G : Hp) (td : List D) (tv : List V) (tw : List (List Addr)) (env : Env) (σ : L2.St) (W : List (List Addr)) (H : Hp), S.K = K → Sub G0 G → RR S G td tv tw env σ W H →
  (∀ d, ds[i]? = some d → J.go i H ∧ ∀ x H', J.yld i H x H' → ∃ G' tw', Sub G G' ∧ RR S G' (d :: td) (x :: tv) tw' env σ W H') ∧ (ds.length ≤ i → J.stop i H)
abbrev IM := Env → Re (List D)
def PostI (S : Sc) (td : List D) (tv : List V) (σ : L2.St) (R : It → Hp → Prop) (wx : WX) : Re (List D) → Prop
  | .ok ds e => ∀ J tw' G' W' H', Wk S.K J G' ds → RR S G' td tv tw' e σ W' H' → R J H'
  | .ex x e => PostX S td tv σ x e wx
  | .bad => False
def tMI (C : Ct) (wx : WX) (m : IM) : TI := fun σ H R => ∃ (S : Sc) (G : Hp) (td : List D) (tv : List V) (tw : List (List Addr)) (env : Env) (W : List (List Addr)),
  S.C = C ∧ RR S G td tv tw env σ W H ∧ PostI S td tv σ R wx (m env)
theorem PIimp {X : Cx} {tg e : Expr} {t t' : TI} (h : PI X tg e t) (i : ∀ σ H R, t' σ H R → t σ H R) : PI X tg e t' := ⟨fun pins s σ H R I q => h.run pins s σ H R I (i σ H R q)⟩
section
variable {K : PySem.W.Frag} {G : Hp} {ds : List D} {vs : List V} {a : Addr}
theorem FL.get' {i : Nat} {d : D} {v : V} (h : FL K G ds vs) (hd : ds[i]? = some d) (hv : vs[i]? = some v) : F K G d v := by
  obtain ⟨v', e, f⟩ := h.get hd
  rw [hv] at e
  cases e
  exact f
theorem Wk.list (q : SqL K G a vs) (f : FL K G ds vs) : Wk K (Itl K a) G ds := by
  refine ⟨f.nr, fun i S G' td tv tw env σ W H hK s R => ?_⟩
  have q2 : SqL K H a vs := (s.trans R.sub).sl q
  refine ⟨fun d hd => ?_, fun hl => ⟨vs, q2, by rw [← f.length]; exact hl⟩⟩
  obtain ⟨v, hv, fv⟩ := f.get hd
  refine ⟨⟨vs, v, q2, hv⟩, fun x H' y => ?_⟩
  obtain ⟨e, y⟩ := y
  subst e
  have := y vs q2
  rw [hv] at this
  cases this
  exact ⟨G', _, Sub.refl _, R.push (hK ▸ F.mono s _ _ fv)⟩
theorem Wk.tup (q : SqT K G a vs) (f : FL K G ds vs) : Wk K (Itt K a) G ds := by
  refine ⟨f.nr, fun i S G' td tv tw env σ W H hK s R => ?_⟩
  have q2 : SqT K H a vs := (s.trans R.sub).st q
  refine ⟨fun d hd => ?_, fun hl => ⟨vs, q2, by rw [← f.length]; exact hl⟩⟩
  obtain ⟨v, hv, fv⟩ := f.get hd
  refine ⟨⟨vs, v, q2, hv⟩, fun x H' y => ?_⟩
  obtain ⟨e, y⟩ := y
  subst e
  have := y vs q2
  rw [hv] at this
  cases this
  exact ⟨G', _, Sub.refl _, R.push (hK ▸ F.mono s _ _ fv)⟩
/-- lo, lo + 1, .. -/
def rangeD (lo : Int) (n : Nat) : List D := (List.range n).map fun (i : Nat) => .int (lo + i)
theorem Wk.rng {lo : Int} {n : Nat} : Wk K (Itr lo n) G (rangeD lo n) := by
  refine ⟨(fun i hi => by
    simp only [rangeD, List.mem_map] at hi
    obtain ⟨_, _, z⟩ := hi
    cases z), fun i S G' td tv tw env σ W H hK s R => ?_⟩
  refine ⟨fun d hd => ?_, fun hl => by
    have hl : n ≤ i := by simpa [rangeD] using hl
    exact hl⟩
  have hi : i < n := by
    have := (List.getElem?_eq_some_iff.mp hd).1
    simpa [rangeD] using this
  have hd2 : d = .int (lo + i) := by
    simp only [rangeD, List.getElem?_map, List.getElem?_range hi, Option.map_some, Option.some.injEq] at hd
    exact hd.symm
  subst hd2
  refine ⟨hi, fun x H' y => ?_⟩
  obtain ⟨e, y⟩ := y
  subst e y
  exact ⟨G', _, Sub.refl _, R.push (by simp only [F])⟩
/-- the items with their numbers -/
def enumD (i : Nat) : List D → List D
  | [] => []
  | d :: ds => .tup [.int (i : Nat), d] :: enumD (i + 1) ds
theorem enumD_get : ∀ {ds : List D} {i j : Nat}, (enumD j ds)[i]? = ds[i]?.map fun d => .tup [.int ((j + i : Nat) : Int), d]
  | [], i, j => by simp [enumD]
  | d :: ds, 0, j => by simp [enumD]
  | d :: ds, i + 1, j => by
    simp only [enumD, List.getElem?_cons_succ, enumD_get]
    congr 1
    funext d
    rw [show j + 1 + i = j + (i + 1) by omega]
theorem enumD_len : ∀ {ds : List D} {j : Nat}, (enumD j ds).length = ds.length
  | [], _ => rfl
  | _ :: ds, j => by simp [enumD, enumD_len]
theorem Wk.enum (q : SqL K G a vs) (f : FL K G ds vs) : Wk K (Ite K a) G (enumD 0 ds) := by
  refine ⟨(fun i hi => by
    obtain ⟨j, hj⟩ := List.getElem?_of_mem hi
    rw [enumD_get] at hj
    obtain ⟨_, _, z⟩ := Option.map_eq_some_iff.mp hj
    cases z), fun i S G' td tv tw env σ W H hK s R => ?_⟩
  have q2 : SqL K H a vs := (s.trans R.sub).sl q
  refine ⟨fun d hd => ?_, fun hl => ⟨vs, q2, by rw [← f.length]; rw [enumD_len] at hl; exact hl⟩⟩
  rw [enumD_get] at hd
  obtain ⟨d0, h0, rfl⟩ := Option.map_eq_some_iff.mp hd
  obtain ⟨v, hv, fv⟩ := f.get h0
  refine ⟨⟨vs, v, q2, hv⟩, fun x H' y => ?_⟩
  obtain ⟨T, x0, rfl, hT, rfl, y⟩ := y
  have := y vs q2
  rw [hv] at this
  cases this
  have f2 : FL S.K G' [.int ((0 + i : Nat) : Int), d0] [.int (i : Nat), v] := by
    simp only [FL, F]
    exact ⟨_, _, rfl, by simp, _, _, rfl, hK ▸ F.mono s _ _ fv, rfl⟩
  exact ⟨_, _, Sub.new (R.sub.none hT), R.newTup hT f2⟩
def zipD : List D → List D → List D
  | x :: xs, y :: ys => .tup [x, y] :: zipD xs ys
  | _, _ => []
theorem zipD_get : ∀ {xs ys : List D} {i : Nat} {d : D}, (zipD xs ys)[i]? = some d → ∃ x y, xs[i]? = some x ∧ ys[i]? = some y ∧ d = .tup [x, y]
  | [], _, _, _, h => by simp [zipD] at h
  | _ :: _, [], _, _, h => by simp [zipD] at h
  | x :: xs, y :: ys, 0, d, h => by
    simp only [zipD, List.getElem?_cons_zero, Option.some.injEq] at h
    exact ⟨x, y, rfl, rfl, h.symm⟩
  | x :: xs, y :: ys, i + 1, d, h => by
    simp only [zipD, List.getElem?_cons_succ] at h ⊢
    exact zipD_get h
theorem zipD_len : ∀ {xs ys : List D}, (zipD xs ys).length = min xs.length ys.length
  | [], ys => by simp [zipD]
  | _ :: _, [] => by simp [zipD]
  | x :: xs, y :: ys => by
    simp only [zipD, List.length_cons, zipD_len]
    omega
theorem Wk.zip {b : Addr} {es : List D} {us : List V} (q : SqL K G a vs) (r : SqL K G b us) (f : FL K G ds vs) (g : FL K G es us) : Wk K (Itz K a b) G (zipD ds es) := by
  refine ⟨(fun i hi => by
    obtain ⟨j, hj⟩ := List.getElem?_of_mem hi
    obtain ⟨_, _, _, _, z⟩ := zipD_get hj
    cases z), fun i S G' td tv tw env σ W H hK s R => ?_⟩
  have q2 : SqL K H a vs := (s.trans R.sub).sl q
  have r2 : SqL K H b us := (s.trans R.sub).sl r
  refine ⟨fun d hd => ?_, fun hl => ⟨vs, us, q2, r2, by rw [← f.length, ← g.length]; rw [zipD_len] at hl; omega⟩⟩
  obtain ⟨d1, d2, h1, h2, rfl⟩ := zipD_get hd
  obtain ⟨v, hv, fv⟩ := f.get h1
  obtain ⟨u, hu, fu⟩ := g.get h2
  refine ⟨⟨vs, us, v, u, q2, r2, hv, hu⟩, fun x H' y => ?_⟩
  obtain ⟨T, x0, y0, rfl, hT, rfl, y1, y2⟩ := y
  have e1 := y1 vs q2
  have e2 := y2 us r2
  rw [hv] at e1
  rw [hu] at e2
  cases e1
  cases e2
  have f2 : FL S.K G' [d1, d2] [v, u] := by
    simp only [FL]
    exact ⟨_, _, rfl, hK ▸ F.mono s _ _ fv, _, _, rfl, hK ▸ F.mono s _ _ fu, rfl⟩
  exact ⟨_, _, Sub.new (R.sub.none hT), R.newTup hT f2⟩
theorem Wk.zipT {b : Addr} {es : List D} {us : List V} (q : SqT K G a vs) (r : SqT K G b us) (f : FL K G ds vs) (g : FL K G es us) : Wk K (RZ.ItzT K a b) G (zipD ds es) := by
  refine ⟨(fun i hi => by
    obtain ⟨j, hj⟩ := List.getElem?_of_mem hi
    obtain ⟨_, _, _, _, z⟩ := zipD_get hj
    cases z), fun i S G' td tv tw env σ W H hK s R => ?_⟩
  have q2 : SqT K H a vs := (s.trans R.sub).st q
  have r2 : SqT K H b us := (s.trans R.sub).st r
  refine ⟨fun d hd => ?_, fun hl => ⟨vs, us, q2, r2, by rw [← f.length, ← g.length]; rw [zipD_len] at hl; omega⟩⟩
  obtain ⟨d1, d2, h1, h2, rfl⟩ := zipD_get hd
  obtain ⟨v, hv, fv⟩ := f.get h1
  obtain ⟨u, hu, fu⟩ := g.get h2
  refine ⟨⟨vs, us, v, u, q2, r2, hv, hu⟩, fun x H' y => ?_⟩
  obtain ⟨T, x0, y0, rfl, hT, rfl, y1, y2⟩ := y
  have e1 := y1 vs q2
  have e2 := y2 us r2
  rw [hv] at e1
  rw [hu] at e2
  cases e1
  cases e2
  have f2 : FL S.K G' [d1, d2] [v, u] := by
    simp only [FL]
    exact ⟨_, _, rfl, hK ▸ F.mono s _ _ fv, _, _, rfl, hK ▸ F.mono s _ _ fu, rfl⟩
  exact ⟨_, _, Sub.new (R.sub.none hT), R.newTup hT f2⟩
def keyD : Key → D
  | .inl i => .int i
  | .inr x => .str x
theorem keyF (k : Key) : F K G (keyD k) (kV k) := by cases k <;> simp only [keyD, kV, F]
/-- the pairs of a dict -/
def itemsD : List Key → List D → List D
  | k :: ks, d :: ds => .tup [keyD k, d] :: itemsD ks ds
  | _, _ => []
theorem itemsD_len : ∀ {ks : List Key} {ds : List D}, ks.length = ds.length → (itemsD ks ds).length = ds.length
  | [], [], _ => rfl
  | k :: ks, d :: ds, h => by simp only [itemsD, List.length_cons]; rw [itemsD_len (by simpa using h)]
  | [], _ :: _, h => by cases h
  | _ :: _, [], h => by cases h
theorem itemsD_get : ∀ {ks : List Key} {ds : List D} {i : Nat} {d : D}, (itemsD ks ds)[i]? = some d → ∃ k x, ks[i]? = some k ∧ ds[i]? = some x ∧ d = .tup [keyD k, x]
  | [], _, _, _, h => by simp [itemsD] at h
  | _ :: _, [], _, _, h => by simp [itemsD] at h
  | x :: xs, y :: ys, 0, d, h => by
    simp only [itemsD, List.getElem?_cons_zero, Option.some.injEq] at h
    exact ⟨x, y, rfl, rfl, h.symm⟩
  | x :: xs, y :: ys, i + 1, d, h => by
    simp only [itemsD, List.getElem?_cons_succ] at h ⊢
    exact itemsD_get h
theorem Wk.items {o : Obj} {ks : List Key} (hk : ks.length = vs.length) (q : G a = some (.frz o (.dK (ks.zip vs)))) (f : FL K G ds vs) : Wk K (Iti a o (ks.zip vs)) G (itemsD ks ds) := by
  refine ⟨(fun i hi => by
    obtain ⟨j, hj⟩ := List.getElem?_of_mem hi
    obtain ⟨_, _, _, _, z⟩ := itemsD_get hj
    cases z), fun i S G' td tv tw env σ W H hK s R => ?_⟩
  have q2 : H a = some (.frz o (.dK (ks.zip vs))) := (s.trans R.sub).get q
  have hl0 : ks.length = ds.length := hk.trans f.length.symm
  have hz : (ks.zip vs).length = ds.length := by rw [List.length_zip, hk, f.length]; simp
  refine ⟨fun d hd => ?_, fun hl => ⟨q2, by rw [hz]; rw [itemsD_len hl0] at hl; exact hl⟩⟩
  obtain ⟨k, d0, h1, h0, rfl⟩ := itemsD_get hd
  obtain ⟨v, hv, fv⟩ := f.get h0
  have hi : i < (ks.zip vs).length := by rw [hz]; exact (List.getElem?_eq_some_iff.mp h0).1
  refine ⟨⟨q2, hi⟩, fun x H' y => ?_⟩
  obtain ⟨T, k', x0, e, rfl, hT, rfl⟩ := y
  have : (ks.zip vs)[i]? = some (k, v) := by rw [List.getElem?_zip_eq_some]; exact ⟨h1, hv⟩
  rw [this] at e
  cases e
  have f2 : FL S.K G' [keyD k, d0] [kV k, v] := by
    simp only [FL]
    exact ⟨_, _, rfl, keyF k, _, _, rfl, hK ▸ F.mono s _ _ fv, rfl⟩
  exact ⟨_, _, Sub.new (R.sub.none hT), R.newTup hT f2⟩
theorem Wk.vals {o : Obj} {ks : List Key} (hk : ks.length = vs.length) (q : G a = some (.frz o (.dK (ks.zip vs)))) (f : FL K G ds vs) : Wk K (Itd a o (ks.zip vs)) G ds := by
  refine ⟨f.nr, fun i S G' td tv tw env σ W H hK s R => ?_⟩
  have q2 : H a = some (.frz o (.dK (ks.zip vs))) := (s.trans R.sub).get q
  have hz : (ks.zip vs).length = ds.length := by rw [List.length_zip, hk, f.length]; simp
  refine ⟨fun d hd => ?_, fun hl => ⟨q2, by rw [hz]; exact hl⟩⟩
  obtain ⟨v, hv, fv⟩ := f.get hd
  refine ⟨⟨q2, by rw [hz]; exact (List.getElem?_eq_some_iff.mp hd).1⟩, fun x H' y => ?_⟩
  obtain ⟨e, k', e2⟩ := y
  subst e
  rw [List.getElem?_zip_eq_some] at e2
  rw [hv] at e2
  cases e2.2
  exact ⟨G', _, Sub.refl _, R.push (hK ▸ F.mono s _ _ fv)⟩
theorem Wk.keys {o : Obj} {ks : List Key} (hk : ks.length = vs.length) (q : G a = some (.frz o (.dK (ks.zip vs)))) : Wk K (Itk a o (ks.zip vs)) G (ks.map keyD) := by
  refine ⟨(fun i hi => by
    obtain ⟨k, _, z⟩ := List.mem_map.mp hi
    cases k <;> cases z), fun i S G' td tv tw env σ W H hK s R => ?_⟩
  have q2 : H a = some (.frz o (.dK (ks.zip vs))) := (s.trans R.sub).get q
  have hz : (ks.zip vs).length = ks.length := by rw [List.length_zip, hk]; simp
  refine ⟨fun d hd => ?_, fun hl => ⟨q2, by rw [hz]; simpa using hl⟩⟩
  rw [List.getElem?_map] at hd
  obtain ⟨k, h1, rfl⟩ := Option.map_eq_some_iff.mp hd
  refine ⟨⟨q2, by rw [hz]; exact (List.getElem?_eq_some_iff.mp h1).1⟩, fun x H' y => ?_⟩
  obtain ⟨e, kk, vv, e2, ex⟩ := y
  subst ex
  subst e
  rw [List.getElem?_zip_eq_some, h1] at e2
  cases e2.1
  exact ⟨G', _, Sub.refl _, R.push (keyF _)⟩
end
/-! ### the iterators, by the mirrors -/
/-- the items of a sequence -/
def seqD : D → Option (List D)
  | .tup ds => some ds
  | .ptp ds => some ds
  | .lst ds => some ds
  | .scr ds => some ds
  | _ => none
def seq1 (x : D) (e : Env) : Re (List D) := match (val e x).bind seqD with
  | some ds => .ok ds e
  | none => .bad
def seqIt (m : EM) : IM := fun env => bindR (m env) seq1
/-- a sequence as it lies -/
theorem seqD_F {K : PySem.W.Frag} {G : Hp} {d : D} {v : V} {ds : List D} (h : seqD d = some ds) (f : F K G d v) : ∃ a vs, v = .ref a ∧ FL K G ds vs ∧ (SqL K G a vs ∨ SqT K G a vs) := by
  cases d <;> simp only [seqD, Option.some.injEq, reduceCtorEq] at h
  · subst h
    simp only [F] at f
    obtain ⟨a, vs, rfl, q, f⟩ := f
    exact ⟨a, vs, rfl, f, .inr q⟩
  · subst h
    simp only [F] at f
    obtain ⟨a, o, vs, rfl, q, _, f⟩ := f
    exact ⟨a, vs, rfl, f, .inr (.inl (.inr ⟨o, q⟩))⟩
  · subst h
    simp only [F] at f
    obtain ⟨a, vs, rfl, q, f⟩ := f
    exact ⟨a, vs, rfl, f, .inl (.inl (.inl q))⟩
  · subst h
    simp only [F] at f
    obtain ⟨a, vs, rfl, q, f⟩ := f
    exact ⟨a, vs, rfl, f, .inl q⟩
section
variable {X : Cx} {tg e e2 : Expr} {xd : Option Addr} {xn : Option Xn} {wx : WX} {m : EM} {ma : AM} {p pos : Pos}
theorem seq1_ok {S : Sc} {G H : Hp} {td : List D} {tv : List V} {tw : List (List Addr)} {env : Env} {σ : L2.St} {W : List (List Addr)} {d : D} {v : V} {R : It → Hp → Prop} (q : RR S G (d :: td) (v :: tv) tw env σ W H) (h : PostI S td tv σ R wx (seq1 d env)) :
    ∃ a G' tw' ds vs, v = .ref a ∧ RR S G' td tv tw' env σ W H ∧ FL S.K G' ds vs ∧ (SqL S.K G' a vs ∨ SqT S.K G' a vs) ∧ PostI S td tv σ R wx (.ok ds env) := by
  unfold seq1 at h
  split at h
  · rename_i ds hd
    obtain ⟨x, h1, h2⟩ := Option.bind_eq_some_iff.mp hd
    obtain ⟨G', tw', R2, s2, f⟩ := q.frzTop h1
    obtain ⟨a, vs, rfl, f2, q2⟩ := seqD_F h2 f
    exact ⟨a, G', tw', ds, vs, rfl, R2, f2, q2, h⟩
  · exact h.elim
theorem bindI {α : Type} {S : Sc} {td : List D} {tv : List V} {σ : L2.St} {R : It → Hp → Prop} {r : Re α} {k : α → Env → Re (List D)} (h : PostI S td tv σ R wx (bindR r k)) :
    (∃ a e, r = .ok a e ∧ PostI S td tv σ R wx (k a e)) ∨ ∃ x e, r = .ex x e ∧ PostX S td tv σ x e wx := by
  cases r with
  | ok a e => exact .inl ⟨a, e, rfl, h⟩
  | ex x e => exact .inr ⟨x, e, rfl, h⟩
  | bad => exact h.elim
/-- a list or a tuple, whichever it is -/
def iSeq (K : PySem.W.Frag) (tl : TE) : TI := fun σ H R => tl σ H fun x H1 => ∃ a, x = .ref a ∧ ((∃ xs, SqL K H1 a xs ∧ R (Itl K a) H1) ∨ ∃ xs, SqT K H1 a xs ∧ R (Itt K a) H1)
theorem pi_seq {tl : TE} (hl : PE X e tl) : PI X tg e (iSeq X.K tl) := by
  refine ⟨fun pins s σ H R I h => ?_⟩
  refine thn (hl.run pins s σ H _ I h) fun v s1 ⟨x, H1, I1, r1, a, ea, q⟩ => ?_
  subst ea
  cases r1
  have at_ : ∀ b, b ∈ [s1.heap.objs.size] → FpOk X pins H1 b := fun b hb => by
    have z : b = s1.heap.objs.size := by simpa using hb
    rw [z]
    exact I1.fpOk (Nat.le_refl _) (I1.hok.fresh (Nat.le_refl _))
  rcases q with ⟨xs, hq, q⟩ | ⟨xs, hq, q⟩
  · obtain ⟨_, _, p, _⟩ := I1.list hq
    refine wpAny_pyIter_list p.isList ⟨s1.heap.objs.size, [s1.heap.objs.size], _, _, H1, rfl, I1.kept (t' := s1.toks) fun b o z => Heap.get?_push_of_some _ z, turn_list a _, ?_, at_, q⟩
    exact ⟨_, Heap.get?_push_size _ rfl, rfl, rfl⟩
  · obtain ⟨its, _, p, _⟩ := I1.tuple hq
    refine wpAny_pyIter_tuple (show s1.heap.IsTuple a its.toArray from p) ⟨s1.heap.objs.size, [s1.heap.objs.size], _, _, H1, rfl, I1.kept (t' := s1.toks) fun b o z => Heap.get?_push_of_some _ z, turn_tuple a _, ?_, at_, q⟩
    exact ⟨_, Heap.get?_push_size _ rfl, rfl, rfl⟩
theorem mi_seq (he : PE X e (tM (ct X xd xn) wx m)) : PI X tg e (tMI (ct X xd xn) wx (seqIt m)) := PIimp (pi_seq he) fun σ H R h => by
  obtain ⟨S, G, td, tv, tw, env, W, hC, q, h⟩ := h
  have hK : S.K = X.K := congrArg Ct.K hC
  rcases bindI h with ⟨d, e1, h1, h⟩ | ⟨x, e1, h1, h⟩
  · refine tM_mk hC q (.inl ⟨d, e1, h1, fun v tw1 G1 W1 H1 R1 => ?_⟩)
    obtain ⟨a, G2, tw2, ds, vs, rfl, R2, f, sq, h⟩ := seq1_ok R1 h
    refine ⟨a, rfl, ?_⟩
    rcases sq with sq | sq
    · exact .inl ⟨vs, hK ▸ R2.sub.sl sq, h _ _ _ _ _ (hK ▸ Wk.list sq f) R2⟩
    · exact .inr ⟨vs, hK ▸ R2.sub.st sq, h _ _ _ _ _ (hK ▸ Wk.tup sq f) R2⟩
  · exact tM_mk hC q (.inr ⟨x, e1, h1, h⟩)
def small62 (i : Int) : Bool := decide (-(2 ^ 62) ≤ i) && decide (i < 2 ^ 62)
theorem small62_ok {i : Int} (h : small62 i = true) : -(2 ^ 62) ≤ i ∧ i < 2 ^ 62 := by simpa [small62] using h
def rng1 (ts : List D) (e : Env) : Re (List D) := match ts with
  | [t] => match deref e t with
    | some (.int j) => if small62 j then .ok (rangeD 0 j.toNat) e else .bad
    | _ => .bad
  | [t, u] => match deref e t with
    | some (.int i) => match deref e u with
      | some (.int j) => if small62 i && small62 j then .ok (rangeD i (j - i).toNat) e else .bad
      | _ => .bad
    | _ => .bad
  | _ => .bad
/-- n arguments -/
def lenA (n : Nat) (a : AM) : AM := fun env => bindR (a env) fun ts e => if ts.length = n then .ok ts e else .bad
def rngI (a : AM) : IM := fun env => bindR (a env) rng1
theorem one_of {vs : List V} (h : vs.length = 1) : ∃ v, vs = [v] := by
  match vs, h with
  | [v], _ => exact ⟨v, rfl⟩
theorem mi_range1 {a : Expr} (hg : Gl X "range") (hm : X.mg "range" = none) (ha : PA X [a] (tMA (ct X xd xn) wx ma)) (hs : starEach [a] X.env = [(false, eval a X.env)] := by rfl) : PI X tg (.Call (.Name "range" p) [a] [] pos) (tMI (ct X xd xn) wx (rngI (lenA 1 ma))) :=
  PIimp (pi_range1 hg hm ha hs) fun σ H R h => by
  obtain ⟨S, G, td, tv, tw, env, W, hC, q, h⟩ := h
  rcases bindI h with ⟨ts, e1, h1, h⟩ | ⟨x, e1, h1, h⟩
  · cases h2 : ma env with
    | ok ts' e' =>
      simp only [lenA, h2, bindR] at h1
      split at h1
      · rename_i hl
        cases h1
        refine tMA_mk hC q (.inl ⟨ts, e1, h2, fun vs tw1 G1 W1 H1 hlv R1 => ?_⟩)
        match ts, hl with
        | [t], _ =>
          obtain ⟨v, rfl⟩ := one_of hlv
          simp only [rng1] at h
          split at h
          · rename_i j hj
            split at h
            · rename_i hs
              obtain ⟨w', o⟩ := RR.look (td := td) (tv := tv) R1 hj
              have := O.int o
              subst this
              obtain ⟨s1, s2⟩ := small62_ok hs
              obtain ⟨_, tw2, _, R2⟩ := RR.pop (td := td) (tv := tv) R1
              exact ⟨j, rfl, s1, s2, h _ _ _ _ _ Wk.rng R2⟩
            · exact h.elim
          · exact h.elim
      · cases h1
    | ex x e' => simp only [lenA, h2, bindR] at h1; cases h1
    | bad => simp only [lenA, h2, bindR] at h1; cases h1
  · cases h2 : ma env with
    | ok ts' e' => simp only [lenA, h2, bindR] at h1; split at h1 <;> cases h1
    | ex x e' =>
      simp only [lenA, h2, bindR] at h1
      cases h1
      exact tMA_mk hC q (.inr ⟨_, _, h2, h⟩)
    | bad => simp only [lenA, h2, bindR] at h1; cases h1
theorem mi_range2 {a b : Expr} (hg : Gl X "range") (hm : X.mg "range" = none) (ha : PA X [a, b] (tMA (ct X xd xn) wx ma)) (hs : starEach [a, b] X.env = [(false, eval a X.env), (false, eval b X.env)] := by rfl) (hs2 : starEach [b] X.env = [(false, eval b X.env)] := by rfl) :
    PI X tg (.Call (.Name "range" p) [a, b] [] pos) (tMI (ct X xd xn) wx (rngI (lenA 2 ma))) :=
  PIimp (pi_range2 hg hm ha hs hs2) fun σ H R h => by
  obtain ⟨S, G, td, tv, tw, env, W, hC, q, h⟩ := h
  rcases bindI h with ⟨ts, e1, h1, h⟩ | ⟨x, e1, h1, h⟩
  · cases h2 : ma env with
    | ok ts' e' =>
      simp only [lenA, h2, bindR] at h1
      split at h1
      · rename_i hl
        cases h1
        refine tMA_mk hC q (.inl ⟨ts, e1, h2, fun vs tw1 G1 W1 H1 hlv R1 => ?_⟩)
        match ts, hl with
        | [t, u], _ =>
          obtain ⟨v, v2, rfl⟩ := two_of hlv
          simp only [rng1] at h
          split at h
          · rename_i i hi
            split at h
            · rename_i j hj
              split at h
              · rename_i hs
                rw [Bool.and_eq_true] at hs
                have R1' : RR S G1 (u :: t :: td) (v2 :: v :: tv) tw1 e1 σ W1 H1 := by simpa using R1
                obtain ⟨w', o⟩ := R1'.look hj
                have := O.int o
                subst this
                obtain ⟨_, tw2, _, R2⟩ := R1'.pop
                obtain ⟨w2, o2⟩ := R2.look hi
                have := O.int o2
                subst this
                obtain ⟨_, tw3, _, R3⟩ := R2.pop
                obtain ⟨s1, s2⟩ := small62_ok hs.1
                obtain ⟨s3, s4⟩ := small62_ok hs.2
                exact ⟨i, j, rfl, ⟨s1, s2, s3, s4⟩, h _ _ _ _ _ Wk.rng R3⟩
              · exact h.elim
            · exact h.elim
          · exact h.elim
      · cases h1
    | ex x e' => simp only [lenA, h2, bindR] at h1; cases h1
    | bad => simp only [lenA, h2, bindR] at h1; cases h1
  · cases h2 : ma env with
    | ok ts' e' => simp only [lenA, h2, bindR] at h1; split at h1 <;> cases h1
    | ex x e' =>
      simp only [lenA, h2, bindR] at h1
      cases h1
      exact tMA_mk hC q (.inr ⟨_, _, h2, h⟩)
    | bad => simp only [lenA, h2, bindR] at h1; cases h1
end
end Mx
set_option Elab.async false
set_option linter.all false
set_option maxRecDepth 100000
set_option maxHeartbeats 1000000
/-! Mx10: for; the block of a comprehension -/
namespace Mx
open PySem PySem.Spec L2 PyProof.Rows
/-! ### a part of a text looked at by itself -/
/-- the scope from this state on; I: what is owned and may be changed -/
def Sc.here (S : Sc) (H G : Hp) (I : List Addr) : Sc := ⟨S.C, H, G, I⟩
section
variable {S : Sc} {G H G3 H3 : Hp} {td td3 : List D} {tv tv3 : List V} {tw tw3 : List (List Addr)} {env env3 : Env} {σ σ3 : L2.St} {W W3 : List (List Addr)} {I : List Addr}
theorem RR.frame2 (R : RR S G td tv tw env σ W H) (hI : ∀ a ∈ I, a ∈ tw.flatten ++ W.flatten) (R3 : RR (S.here H G I) G3 td3 tv3 tw3 env3 σ3 W3 H3) : ∀ a o, S.H0 a = some o → a ∉ S.I → H3 a = some o ∨ (S.B a = some o ∧ ∃ kvs od, o = .dK kvs ∧ H3 a = some (.frz od o)) := fun a o h n => by
  have nI : a ∉ (S.here H G I).I := fun z => by
    rcases R.own a (hI a z) with q | q
    · rw [h] at q; cases q
    · exact n q
  rcases R.frame a o h n with q | ⟨q, kvs, od, q2, q3⟩
  · rcases R3.frame a o q nI with z | ⟨z, kvs, od, z2, z3⟩
    · exact .inl z
    · have z : G a = some o := z
      refine .inr ⟨?_, kvs, od, z2, z3⟩
      rcases R.gdom a (by rw [z]; exact fun z => nomatch z) with y | y | y
      · cases p : S.B a with
        | none => exact absurd p y
        | some o' =>
          rcases R.base a o' p with x | ⟨_, _, _, x⟩
          · rw [z] at x; cases x; rfl
          · rw [z, z2] at x; cases x
      · rw [h] at y; cases y
      · exact absurd y n
  · rcases R3.frame a _ q3 nI with z | ⟨_, kvs', _, z2, _⟩
    · exact .inr ⟨q, kvs, od, q2, z⟩
    · cases z2
theorem RR.own2 (R : RR S G td tv tw env σ W H) (hI : ∀ a ∈ I, a ∈ tw.flatten ++ W.flatten) {a : Addr} (h : H a = none ∨ a ∈ I) : S.H0 a = none ∨ a ∈ S.I := by
  rcases h with z | z
  · exact .inl (R.fresh z)
  · exact R.own a (hI a z)
theorem RR.rebase (R : RR S G td tv tw env σ W H) : RR (S.here H G (tw.flatten ++ W.flatten)) G td tv tw env σ W H :=
  ⟨R.tl, R.sl, R.nd, fun a ha => .inr ha, R.fp, R.sub, Sub.refl _, fun a o h _ => .inl h, fun a h => h, fun a h => .inl h, R.gx⟩
theorem RR.unbase (R : RR S G td tv tw env σ W H) (R3 : RR (S.here H G (tw.flatten ++ W.flatten)) G3 td3 tv3 tw3 env3 σ3 W3 H3) : RR S G3 td3 tv3 tw3 env3 σ3 W3 H3 :=
  ⟨R3.tl, R3.sl, R3.nd, fun a ha => R.own2 (fun _ z => z) (R3.own a ha), R3.fp, R3.sub, R.base.trans R3.base, R.frame2 (fun _ z => z) R3, fun a h => R3.dom a (R.dom a h), fun a h => by
    rcases R3.gdom a h with z | z
    · exact R.gdom a z
    · exact .inr (R.own2 (fun _ z => z) z), R3.gx⟩
/-- the temporaries are put aside -/
theorem RR.aside (R : RR S G td tv tw env σ W H) : RR (S.here H G W.flatten) G [] [] [] env σ W H := by
  refine ⟨by simp [Tl], R.sl, ?_, fun a ha => .inr (by
    show a ∈ W.flatten
    simpa using ha), fun a ha => R.fp a (List.mem_append_right _ (by simpa using ha)), R.sub, Sub.refl _, fun a o h _ => .inl h, fun a h => h, fun a h => .inl h, R.gx⟩
  simpa using (List.nodup_append.mp R.nd).2.1
theorem RR.unaside (R : RR S G td tv tw env σ W H) (R3 : RR (S.here H G W.flatten) G3 td3 tv3 tw3 env3 σ W3 H3) : RR S G3 (td3 ++ td) (tv3 ++ tv) (tw3 ++ tw) env3 σ W3 H3 := by
  have hI : ∀ a ∈ W.flatten, a ∈ tw.flatten ++ W.flatten := fun a ha => List.mem_append_right _ ha
  obtain ⟨n1, n2, dj⟩ := List.nodup_append.mp R.nd
  -- what the temporaries own is untouched
  have kept : ∀ a ∈ tw.flatten, G3 a = none ∧ H3 a = H a := fun a ha => by
    have hf := R.fp a (List.mem_append_left _ ha)
    have hw : a ∉ W.flatten := fun z => dj a ha a z rfl
    constructor
    · cases q : G3 a with
      | none => rfl
      | some o =>
        rcases R3.gdom a (by rw [q]; exact fun z => nomatch z) with z | z | z
        · exact absurd hf.1 z
        · exact absurd z hf.2
        · exact absurd z hw
    · cases q : H a with
      | none => exact absurd q hf.2
      | some o =>
        rcases R3.frame a o q hw with z | ⟨z, _⟩
        · exact z
        · rw [show (S.here H G W.flatten).B a = G a from rfl, hf.1] at z; cases z
  have hz : ∀ a, a ∈ (tw3 ++ tw).flatten ++ W3.flatten → a ∈ tw.flatten ∨ a ∈ tw3.flatten ++ W3.flatten := fun a ha => by
    simp only [List.flatten_append, List.mem_append] at ha ⊢
    rcases ha with (z | z) | z
    · exact .inr (.inl z)
    · exact .inl z
    · exact .inr (.inr z)
  refine ⟨R3.tl.append (R.tl.mono R3.base kept), R3.sl, ?_, fun a ha => ?_, fun a ha => ?_, R3.sub, R.base.trans R3.base, R.frame2 hI R3, fun a h => R3.dom a (R.dom a h), fun a h => ?_, R3.gx⟩
  · have pm : ((tw3 ++ tw).flatten ++ W3.flatten).Perm (tw.flatten ++ (tw3.flatten ++ W3.flatten)) := by
      rw [List.flatten_append, List.append_assoc]
      exact (List.perm_append_comm (l₁ := tw3.flatten) (l₂ := tw.flatten ++ W3.flatten)).trans (by
        rw [List.append_assoc]
        exact List.Perm.append_left _ List.perm_append_comm)
    refine pm.nodup_iff.mpr (List.nodup_append.mpr ⟨n1, R3.nd, fun a ha b hb e => ?_⟩)
    subst e
    rcases R3.own a hb with z | z
    · exact (R.fp a (List.mem_append_left _ ha)).2 z
    · exact dj a ha a z rfl
  · rcases hz a ha with z | z
    · exact R.own a (List.mem_append_left _ z)
    · exact R.own2 hI (R3.own a z)
  · rcases hz a ha with z | z
    · exact ⟨(kept a z).1, by rw [(kept a z).2]; exact (R.fp a (List.mem_append_left _ z)).2⟩
    · exact R3.fp a z
  · rcases R3.gdom a h with z | z
    · exact R.gdom a z
    · exact .inr (R.own2 hI z)
end
/-! ### for -/
def forL (g : GM) (b : SM) : List D → Env → Out
  | [], e => .nx e
  | d :: ds, e => match g d e with
    | none => .bad
    | some e2 => match b e2 with
      | .nx e3 => forL g b ds e3
      | .ct e3 => forL g b ds e3
      | .bk e3 => .nx e3
      | .rt r e3 => .rt r e3
      | .ex x e3 => .ex x e3
      | .bad => .bad
def forS (im : IM) (g : GM) (b : SM) : SM := fun env => bindS (im env) fun ds e => forL g b ds e
section
variable {X : Cx} {xd : Option Addr} {xn : Option Xn} {wx : WX} {tg iter : Expr} {body : List Stmt} {ro : List Bool} {im : IM} {g : GM} {b : SM} {pos : Pos}
theorem ms_for (hp : PassesOwn (model X.prog X.w) X.A X.env X.xe) (hc : X.calm = true) (hi : PI X tg iter (tMI (ct X xd xn) wx im)) (hg : PG X tg (tMG (ct X xd xn) ro g)) (hb : PSs X body (tMS (ct X xd xn) wx ro b)) (hs : ∀ x, foldedSetIterable iter X.env x = pure x := by intro _; rfl) :
    PS X (.For tg iter body [] pos) (tMS (ct X xd xn) wx ro (forS im g b)) := PSimp (ps_for hp hc hi hg hb hs) fun D' σ H h => by
  obtain ⟨S, G, td, tv, tw, env, W, hC, nr, R, q⟩ := h
  have hK : S.K = X.K := congrArg Ct.K hC
  show tMI _ _ _ _ _ _
  rcases bindP q with ⟨ds, e1, h1, q⟩ | ⟨x, e1, h1, q⟩
  · refine ⟨S, G, td, tv, tw, env, W, hC, R, ?_⟩
    rw [h1]
    intro J tw1 G1 W1 H1 wk R1
    have ndr := wk.1
    -- the scope from here on: what G1 holds stays
    generalize hS1 : S.here H1 G1 (tw1.flatten ++ W1.flatten) = S1
    have back : ∀ {G3 : Hp} {td3 : List D} {tv3 : List V} {tw3 : List (List Addr)} {e3 : Env} {σ3 : L2.St} {W3 : List (List Addr)} {H3 : Hp}, RR S1 G3 td3 tv3 tw3 e3 σ3 W3 H3 → RR S G3 td3 tv3 tw3 e3 σ3 W3 H3 := fun R3 => R1.unbase (hS1 ▸ R3)
    have hC1 : S1.C = ct X xd xn := by rw [← hS1]; exact hC
    have hB1 : S1.B = G1 := by rw [← hS1]; rfl
    have R1b : RR S1 G1 td tv tw1 e1 σ W1 H1 := hS1 ▸ R1.rebase
    refine ⟨fun i m σ' H' => m = ds.length - i ∧ i ≤ ds.length ∧ ∃ (G' : Hp) (tw' : List (List Addr)) (e' : Env) (W' : List (List Addr)), RR S1 G' td tv tw' e' σ' W' H' ∧ Keep ro σ σ' ∧ Post S td tv ro σ wx D' (forL g b (ds.drop i) e'), ⟨ds.length, by simp, by omega, G1, tw1, e1, W1, R1b, Keep.refl, by simpa using q⟩, ?_⟩
    rintro i m σ' H' ⟨rfl, hle, G', tw', e', W', R', kp, q⟩
    have wi := wk.2 i S1 G' td tv tw' e' σ' W' H' (show S1.K = S.K by unfold Sc.K; rw [hC1, hC]) (hB1 ▸ R'.base) R'
    by_cases hlt : i < ds.length
    · have hd : ds[i]? = some ds[i] := List.getElem?_eq_getElem hlt
      obtain ⟨go, yl⟩ := wi.1 _ hd
      rw [List.drop_eq_getElem_cons hlt] at q
      generalize ds[i] = d at hd yl q
      have nd : ∀ j, d ≠ .rf j := fun j z => ndr j (z ▸ List.mem_of_getElem? hd)
      unfold forL at q
      split at q
      · exact q.elim
      · rename_i e2 hg2
        refine .inr ⟨go, fun σ7 H7 => ∃ (G7 : Hp) (tw7 : List (List Addr)) (e7 : Env) (W7 : List (List Addr)), RR S1 G7 td tv tw7 e7 σ7 W7 H7 ∧ Keep ro σ σ7 ∧ Post S td tv ro σ wx D' (forL g b (ds.drop (i + 1)) e7), fun σ7 H7 n7 => ⟨ds.length - (i + 1), by omega, rfl, by omega, n7⟩, fun x H2 y => ?_⟩
        obtain ⟨G2, tw2, s2, R2⟩ := yl x H2 y
        refine ⟨S1, G2, d, td, tv, tw2, e', W', e2, hC1, nr, nd, R2, hg2, fun tw3 G3 σ3 W3 H3 R3 kp3 => ?_⟩
        refine ⟨S1, G3, td, tv, tw3, e2, W3, hC1, nr, R3, ?_⟩
        cases hb2 : b e2 with
        | nx e3 =>
          rw [hb2] at q
          exact fun tw4 G4 σ4 W4 H4 R4 kp4 => ⟨G4, tw4, e3, W4, R4, (kp.trans kp3).trans kp4, q⟩
        | ct e3 =>
          rw [hb2] at q
          exact fun tw4 G4 σ4 W4 H4 R4 kp4 => ⟨G4, tw4, e3, W4, R4, (kp.trans kp3).trans kp4, q⟩
        | bk e3 =>
          rw [hb2] at q
          exact fun tw4 G4 σ4 W4 H4 R4 kp4 => q tw4 G4 σ4 W4 H4 (back R4) ((kp.trans kp3).trans kp4)
        | rt r e3 =>
          rw [hb2] at q
          exact fun v tw4 G4 σ4 W4 H4 R4 kp4 => q v tw4 G4 σ4 W4 H4 (back R4) ((kp.trans kp3).trans kp4)
        | ex x e3 =>
          rw [hb2] at q
          exact fun cls od tw4 G4 σ4 W4 H4 R4 kp4 xr => q cls od tw4 G4 σ4 W4 H4 (back R4) ((kp.trans kp3).trans kp4) (by
            have e1 : S1.K = S.K := by unfold Sc.K; rw [hC1, hC]
            exact e1 ▸ xr)
        | bad => rw [hb2] at q; exact q.elim
    · have hi0 : i = ds.length := by omega
      subst hi0
      rw [List.drop_length] at q
      exact .inl ⟨wi.2 (Nat.le_refl _), q tw' G' σ' W' H' (back R') kp⟩
  · refine ⟨S, G, td, tv, tw, env, W, hC, R, ?_⟩
    rw [h1]
    exact q
end
end Mx
set_option Elab.async false
set_option linter.all false
set_option maxRecDepth 100000
set_option maxHeartbeats 1000000
/-! Mx11: comprehensions; enumerate, zip, items -/
namespace Mx
open PySem PySem.Spec L2 PyProof.Rows
/-! ### the block's own slots -/
def killE (e : Env) : List Nat → Env
  | [] => e
  | v :: vs => (killE e vs).set v none
theorem killE_len (e : Env) : ∀ vs : List Nat, (killE e vs).length = e.length
  | [] => rfl
  | v :: vs => by unfold killE; rw [List.length_set, killE_len e vs]
theorem killE_in {e : Env} {i : Nat} : ∀ {vs : List Nat}, i ∈ vs → i < e.length → (killE e vs)[i]? = some none
  | v :: vs, h, hl => by
    unfold killE
    by_cases z : v = i
    · subst z
      rw [List.getElem?_set_self (by rw [killE_len]; exact hl)]
    · rw [List.getElem?_set_ne z]
      refine killE_in ?_ hl
      rcases List.mem_cons.mp h with y | y
      · exact absurd y.symm z
      · exact y
theorem wipe_out {σ : L2.St} {i : Nat} : ∀ {vs : List Nat}, i ∉ vs → (wipe σ vs)[i]? = σ[i]?
  | [], _ => rfl
  | v :: vs, h => by
    have n : v ≠ i := fun z => h (by rw [z]; exact List.mem_cons_self ..)
    unfold L2.wipe
    rw [List.getElem?_set_ne n]
    exact wipe_out fun z => h (List.mem_cons_of_mem _ z)
theorem wipe_in {σ : L2.St} {i : Nat} : ∀ {vs : List Nat}, i ∈ vs → i < σ.length → (wipe σ vs)[i]? = some none
  | v :: vs, h, hl => by
    unfold L2.wipe
    by_cases z : v = i
    · subst z
      rw [List.getElem?_set_self (by rw [wipe_length]; exact hl)]
    · rw [List.getElem?_set_ne z]
      refine wipe_in ?_ hl
      rcases List.mem_cons.mp h with y | y
      · exact absurd y.symm z
      · exact y
theorem Sl.other {K : PySem.W.Frag} {G H : Hp} : ∀ {env : Env} {σ σ' : L2.St} {W : List (List Addr)}, Sl K G H env σ W → σ'.length = σ.length → (∀ i : Nat, env[i]? ≠ some none → σ'[i]? = σ[i]?) → Sl K G H env σ' W
  | [], σ, σ', W, h, hl, _ => by
    simp only [Sl] at h ⊢
    obtain ⟨rfl, rfl⟩ := h
    exact ⟨List.eq_nil_of_length_eq_zero hl, rfl⟩
  | none :: env, σ, σ', W, h, hl, a => by
    simp only [Sl] at h ⊢
    obtain ⟨x, σ1, W1, rfl, rfl, h1⟩ := h
    cases σ' with
    | nil => cases hl
    | cons y σ2 => exact ⟨y, σ2, W1, rfl, rfl, h1.other (by simpa using hl) fun i hi => by simpa using a (i + 1) (by simpa using hi)⟩
  | some d :: env, σ, σ', W, h, hl, a => by
    simp only [Sl] at h ⊢
    obtain ⟨v, σ1, w, W1, rfl, rfl, o, h1⟩ := h
    cases σ' with
    | nil => cases hl
    | cons y σ2 =>
      have e : y = some v := by simpa using a 0 (by simp)
      subst e
      exact ⟨v, σ2, w, W1, rfl, rfl, o, h1.other (by simpa using hl) fun i hi => by simpa using a (i + 1) (by simpa using hi)⟩
section
variable {S : Sc} {G H : Hp} {td : List D} {tv : List V} {tw : List (List Addr)} {env : Env} {σ σ' : L2.St} {W : List (List Addr)}
theorem RR.other (R : RR S G td tv tw env σ W H) (nr : NR td) (hl : σ'.length = σ.length) (h : ∀ i : Nat, env[i]? ≠ some none → σ'[i]? = σ[i]?) : RR S G td tv tw env σ' W H :=
  ⟨R.tl.slots fun i hi => absurd hi (nr i), R.sl.other hl h, R.nd, R.own, R.fp, R.sub, R.base, R.frame, R.dom, R.gdom, R.gx⟩
theorem RR.killL (R : RR S G td tv tw env σ W H) : ∀ vs : List Nat, ∃ W', RR S G td tv tw (killE env vs) σ W' H
  | [] => ⟨W, R⟩
  | v :: vs => by
    obtain ⟨W', R'⟩ := R.killL vs
    exact ⟨_, R'.kill v none fun _ z => by cases z⟩
/-- into the block -/
theorem RR.wipe (R : RR S G td tv tw env σ W H) (nr : NR td) (vs : List Nat) : ∃ W', RR S G td tv tw (killE env vs) (L2.wipe σ vs) W' H := by
  obtain ⟨W', R'⟩ := R.killL vs
  refine ⟨W', R'.other nr (wipe_length σ vs) fun i hi => ?_⟩
  have hl := R'.sl.len.1
  rw [killE_len] at hl
  by_cases z : i ∈ vs
  · by_cases hlt : i < env.length
    · exact absurd (killE_in z hlt) hi
    · rw [List.getElem?_eq_none (by rw [wipe_length]; omega), List.getElem?_eq_none (by omega)]
  · exact wipe_out z
/-- from one state of the block's slots to another one -/
theorem RR.rewipe (R : RR S G td tv tw env σ W H) (nr : NR td) {vs : List Nat} (h : L2.wipe σ vs = L2.wipe σ' vs) : ∃ W', RR S G td tv tw (killE env vs) σ' W' H := by
  obtain ⟨W', R'⟩ := R.killL vs
  have hl : σ'.length = σ.length := by rw [← wipe_length σ vs, h, wipe_length]
  refine ⟨W', R'.other nr hl fun i hi => ?_⟩
  by_cases z : i ∈ vs
  · by_cases hlt : i < env.length
    · exact absurd (killE_in z hlt) hi
    · have := R'.sl.len.1
      rw [killE_len] at this
      rw [List.getElem?_eq_none (by omega), List.getElem?_eq_none (by omega)]
  · rw [← wipe_out (σ := σ') z, ← h, wipe_out z]
end
theorem wipe_wipe {σ : L2.St} {vs : List Nat} : L2.wipe (L2.wipe σ vs) vs = L2.wipe σ vs := by
  apply List.ext_getElem?
  intro i
  by_cases z : i ∈ vs
  · by_cases hl : i < σ.length
    · rw [wipe_in z (by rw [wipe_length]; exact hl), wipe_in z hl]
    · rw [List.getElem?_eq_none (by rw [wipe_length, wipe_length]; omega), List.getElem?_eq_none (by rw [wipe_length]; omega)]
  · rw [wipe_out z]
/-- all slots but the block's own stay -/
theorem keep_wipe {ro : List Bool} {σ σ' : L2.St} {vs : List Nat} (k : Keep ro σ σ') (hl : σ'.length = σ.length) (h : ∀ i, i < σ.length → i ∉ vs → ro[i]? = some true) : L2.wipe σ' vs = L2.wipe σ vs := by
  apply List.ext_getElem?
  intro i
  by_cases hlt : i < σ.length
  · by_cases z : i ∈ vs
    · rw [wipe_in z (by omega), wipe_in z hlt]
    · rw [wipe_out z, wipe_out z, k i (h i hlt z)]
  · rw [List.getElem?_eq_none (by rw [wipe_length]; omega), List.getElem?_eq_none (by rw [wipe_length]; omega)]
/-! ### [elt for target in iter if ..] -/
def lcL (vs : List Nat) (g : GM) (t : BM) (m : EM) : List D → Env → List D → Re D
  | [], e, acc => .ok (.own acc) (killE e vs)
  | d :: ds, e, acc => match g d e with
    | none => .bad
    | some e2 => match t e2 with
      | .ok false e3 => lcL vs g t m ds (killE e3 vs) acc
      | .ok true e3 => match m e3 with
        | .ok x e4 => match val e4 x with
          | some y => if acc.length < 1000000 then lcL vs g t m ds (killE e4 vs) (acc ++ [y]) else .bad
          | none => .bad
        | _ => .bad
      | _ => .bad
/-- n slots, vs the block's own -/
def lcM (n : Nat) (vs : List Nat) (im : IM) (g : GM) (t : BM) (m : EM) : EM := fun env => bindR (im env) fun ds e => if e.length = n then lcL vs g t m ds (killE e vs) [] else .bad
/-- all slots but vs are kept -/
def roC (n : Nat) (vs : List Nat) : List Bool := (List.range n).map fun i => !vs.contains i
theorem roC_get {n i : Nat} {vs : List Nat} (h : i < n) (z : i ∉ vs) : (roC n vs)[i]? = some true := by
  simp [roC, List.getElem?_range h, z]
/-- a target that keeps the slots' number -/
def GL (g : GM) : Prop := ∀ d e e', g d e = some e' → e'.length = e.length
def GsL (g : GsM) : Prop := ∀ ds e e', g ds e = some e' → e'.length = e.length
theorem gl_name {i : Nat} : GL (nameG i) := fun d e e' h => by
  unfold nameG at h
  split at h
  · cases h; simp
  · cases h
theorem gsl_nil : GsL nilG := fun ds e e' h => by
  unfold nilG at h
  split at h
  · cases h; rfl
  · cases h
theorem gsl_cons {g : GM} {r : GsM} (h1 : GL g) (h2 : GsL r) : GsL (consG g r) := fun ds e e' h => by
  unfold consG at h
  split at h
  · cases h
  · split at h
    · cases h
    · rename_i q
      rw [h2 _ _ _ h, h1 _ _ _ q]
theorem gl_tup {n : Nat} {g : GsM} (h1 : GsL g) : GL (tupG n g) := fun d e e' h => by
  unfold tupG at h
  split at h
  · split at h
    · exact h1 _ _ _ h
    · cases h
  · cases h
/-- no test -/
def yesB : BM := fun e => .ok true e
abbrev wxF : WX := fun _ _ _ _ => False
section
variable {S : Sc} {G H : Hp} {td : List D} {tv : List V} {tw : List (List Addr)} {env : Env} {σ : L2.St} {W : List (List Addr)}
/-- a frozen item behind a list that the top owns -/
theorem RR.app {acc : List D} {p : Addr} {y : D} {v : V} (R : RR S G (.own acc :: td) (.ref p :: tv) tw env σ W H) (hf : fzL acc = true) (f : F S.K G y v) : ∃ vs, H p = some (.lst vs) ∧ vs.length = acc.length ∧ ∃ tw', RR S G (.own (acc ++ [y]) :: td) (.ref p :: tv) tw' env σ W (upd H p (.lst (vs ++ [v]))) := by
  obtain ⟨w, tw', rfl, _⟩ := R.pop
  obtain ⟨w2, o⟩ := R.top
  have ht := R.tl
  simp only [Tl] at ht
  obtain ⟨v0, us, w0, xs, e1, e2, h1, h2⟩ := ht
  cases e1
  cases e2
  simp only [Tm, O] at h1
  obtain ⟨a, vs, fq, e3, e4, hp, gp, ol⟩ := h1
  cases e3
  obtain ⟨rfl, fl⟩ := OL.to_FL hf ol
  subst e4
  refine ⟨vs, hp, fl.length.symm, [p] :: tw', R.change (List.mem_singleton.mpr rfl) ?_⟩
  simp only [O]
  exact ⟨p, vs ++ [v], [], rfl, rfl, upd_same, gp, OL.of_FL (fl.append (by simp only [FL]; exact ⟨v, [], rfl, f, rfl⟩))⟩
end
theorem fzL_snoc {acc : List D} {y : D} (h : fzL acc = true) (f : y.fz = true) : fzL (acc ++ [y]) = true := by simp [fzL] at h ⊢; exact ⟨h, f⟩
section
variable {X : Cx} {xd : Option Addr} {xn : Option Xn} {wx : WX} {elt tg iter : Expr} {ifs : List Expr} {im : IM} {g : GM} {t : BM} {m : EM} {vs : List Nat} {ro' : List Bool} {gt : TG} {tt : TT} {te : TE}
/-- the reading by the mirror -/
theorem lc_imp {n : Nat} (hg : ∀ v σ H Q, tMG (ct X xd xn) (roC n vs) g v σ H Q → gt v σ H Q) (ht : ∀ σ H Q, tMB (ct X xd xn) wxF t σ H Q → tt σ H Q) (he : ∀ σ H Q, tM (ct X xd xn) wxF m σ H Q → te σ H Q)
    (hlen : GL g) : ∀ σ H Q, tM (ct X xd xn) wx (lcM n vs im g t m) σ H Q → tLc (tMI (ct X xd xn) wx im) gt tt te vs σ H Q := fun σ H Q h => by
  obtain ⟨S, G, td, tv, tw, env, W, hC, R, q⟩ := h
  show tMI _ _ _ _ _ _
  rcases bindE q with ⟨ds, e1, h1, q⟩ | ⟨x, e1, h1, q⟩
  · refine ⟨S, G, td, tv, tw, env, W, hC, R, ?_⟩
    rw [h1]
    intro J tw1 G1 W1 H1 wk R1 D0 hD
    have hn0 : e1.length = n ∧ PostE S td tv σ Q wx (lcL vs g t m ds (killE e1 vs) []) := by
      split at q
      · exact ⟨by assumption, q⟩
      · exact q.elim
    obtain ⟨hn, q⟩ := hn0
    have hsn : σ.length = n := by rw [← R1.sl.len.1]; exact hn
    -- into the block
    have Ra := R1.aside
    generalize hS1 : S.here H1 G1 W1.flatten = S1 at Ra
    have hC1 : S1.C = ct X xd xn := by rw [← hS1]; exact hC
    have hB1 : S1.B = G1 := by rw [← hS1]; rfl
    have hK1 : S1.K = S.K := by unfold Sc.K; rw [hC1, hC]
    obtain ⟨W2, Rw⟩ := Ra.wipe (fun _ z => nomatch z) vs
    have Rn := Rw.newLst (ds := []) (vs := []) hD (by simp only [FL])
    have nrA : ∀ acc : List D, NR [D.own acc] := fun acc i hi => by
      have := List.mem_singleton.mp hi
      cases this
    refine ⟨fun i n H' => n = ds.length - i ∧ i ≤ ds.length ∧ ∃ (G' : Hp) (tw' : List (List Addr)) (e' : Env) (W' : List (List Addr)) (acc : List D), RR S1 G' [.own acc] [.ref D0] tw' e' (L2.wipe σ vs) W' H' ∧ fzL acc = true ∧ PostE S td tv σ Q wx (lcL vs g t m (ds.drop i) e' acc),
      ⟨ds.length, by simp, by omega, G1, _, _, W2, [], Rn, rfl, by simpa using q⟩, ?_⟩
    rintro i n H' ⟨rfl, hle, G', tw', e', W', acc, R', fz, q⟩
    have wi := wk.2 i S1 G' _ _ tw' e' _ W' H' hK1 (hB1 ▸ R'.base) R'
    by_cases hlt : i < ds.length
    · have hd : ds[i]? = some ds[i] := List.getElem?_eq_getElem hlt
      obtain ⟨go, yl⟩ := wi.1 _ hd
      rw [List.drop_eq_getElem_cons hlt] at q
      generalize ds[i] = d at hd yl q
      have nd : ∀ j, d ≠ .rf j := fun j z => wk.1 j (z ▸ List.mem_of_getElem? hd)
      unfold lcL at q
      split at q
      · exact q.elim
      · rename_i e2 hg2
        refine .inr ⟨go, fun H7 => ∃ (G7 : Hp) (tw7 : List (List Addr)) (e7 : Env) (W7 : List (List Addr)) (acc7 : List D), RR S1 G7 [.own acc7] [.ref D0] tw7 e7 (L2.wipe σ vs) W7 H7 ∧ fzL acc7 = true ∧ PostE S td tv σ Q wx (lcL vs g t m (ds.drop (i + 1)) e7 acc7),
          fun H7 n7 => ⟨ds.length - (i + 1), by omega, rfl, by omega, n7⟩, fun x H2 y => ?_⟩
        obtain ⟨G2, tw2, s2, R2⟩ := yl x H2 y
        refine hg _ _ _ _ ⟨S1, G2, d, [.own acc], [.ref D0], tw2, e', W', e2, hC1, nrA acc, nd, R2, hg2, fun tw3 G3 σ3 W3 H3 R3 kp3 => ?_⟩
        have hl3 : σ3.length = (L2.wipe σ vs).length := by rw [← R3.sl.len.1, hlen _ _ _ hg2, R'.sl.len.1]
        have hw3 : L2.wipe σ3 vs = L2.wipe (L2.wipe σ vs) vs := keep_wipe kp3 hl3 fun j hj hn => roC_get (by rw [wipe_length] at hj; omega) hn
        refine ⟨hw3.trans wipe_wipe, ht _ _ _ (tMB_mk hC1 R3 (.inl ?_))⟩
        cases ht2 : t e2 with
        | bad => rw [ht2] at q; exact q.elim
        | ex x e3 => rw [ht2] at q; exact q.elim
        | ok b e3 =>
          rw [ht2] at q
          refine ⟨b, e3, rfl, fun tw4 G4 W4 H4 R4 => ?_⟩
          cases b with
          | false =>
            simp only [Bool.false_eq_true, if_false]
            obtain ⟨W5, R5⟩ := R4.rewipe (nrA acc) hw3
            exact ⟨G4, tw4, _, W5, acc, R5, fz, q⟩
          | true =>
            simp only [if_true]
            simp only at q
            refine he _ _ _ (tM_mk hC1 R4 (.inl ?_))
            split at q
            · rename_i x4 e4 hm
              split at q
              · rename_i y4 hv
                split at q
                · rename_i hacc
                  refine ⟨x4, e4, hm, fun v tw5 G5 W5 H5 R5 => ?_⟩
                  obtain ⟨G6, tw6, R6, s6, f6⟩ := R5.frzTop hv
                  obtain ⟨vacc, hp, hvl, tw7, R7⟩ := R6.app fz f6
                  refine ⟨vacc, hp, (by rw [sizeLine_eq, hvl]; omega), ?_⟩
                  obtain ⟨W8, R8⟩ := R7.rewipe (nrA _) hw3
                  exact ⟨G6, tw7, _, W8, _, R8, fzL_snoc fz f6.fz, q⟩
                · exact q.elim
              · exact q.elim
            · exact q.elim
    · have hi0 : i = ds.length := by omega
      subst hi0
      rw [List.drop_length] at q
      refine .inl ⟨wi.2 (Nat.le_refl _), ?_⟩
      obtain ⟨W5, R5⟩ := R'.rewipe (nrA acc) (σ' := σ) wipe_wipe
      exact q _ _ _ _ _ (R1.unaside (hS1 ▸ R5))
  · refine ⟨S, G, td, tv, tw, env, W, hC, R, ?_⟩
    rw [h1]
    exact q
end
section
variable {X : Cx} {xd : Option Addr} {xn : Option Xn} {wx : WX} {elt tg iter c : Expr} {im : IM} {g : GM} {t : BM} {m : EM} {n : Nat} {scope : Scope} {own : List (Str × Nat)} {pos : Pos}
/-- the block's context -/
abbrev BlkAll (X : Cx) (scope : Scope) (P : Cx → Prop) : Prop := ∀ (s : Shared) (H : Hp) (C : Addr) (cl : List (Str × Addr)) (fp : List Addr), P (X.blk s H scope (compEnvC scope cl C X.env) fp)
theorem me_lc (hc : X.calm = true) (hN : X.N.Nodup) (hi : PI X tg iter (tMI (ct X xd xn) wx im)) (ok : BlkOk X.N X.env.scope scope own) (hgl : GL g)
    (hg : BlkAll X scope fun Y => PG Y tg (tMG (ct Y xd xn) (roC n (own.map (·.2))) g)) (he : BlkAll X scope fun Y => PE Y elt (tM (ct Y xd xn) wxF m)) (hs : ∀ x, foldedSetIterable iter X.env x = pure x := by intro _; rfl) :
    PE X (.ListComp elt [⟨tg, iter, [], 0⟩] scope pos) (tM (ct X xd xn) wx (lcM n (own.map (·.2)) im g yesB m)) :=
  PEimp (pe_lc hc hN hi ok hg (fun s H C cl fp => pts_nil) he hs) (lc_imp (fun _ _ _ _ h => h) (fun σ H Q h => by
    obtain ⟨S, G, td, tv, tw, env, W, hC, R, q⟩ := h
    exact q _ _ _ _ R) (fun _ _ _ h => h) hgl)
theorem me_lcIf (hc : X.calm = true) (hN : X.N.Nodup) (hi : PI X tg iter (tMI (ct X xd xn) wx im)) (ok : BlkOk X.N X.env.scope scope own) (hgl : GL g)
    (hg : BlkAll X scope fun Y => PG Y tg (tMG (ct Y xd xn) (roC n (own.map (·.2))) g)) (ht : BlkAll X scope fun Y => PT Y c (tMB (ct Y xd xn) wxF t)) (he : BlkAll X scope fun Y => PE Y elt (tM (ct Y xd xn) wxF m)) (hs : ∀ x, foldedSetIterable iter X.env x = pure x := by intro _; rfl) :
    PE X (.ListComp elt [⟨tg, iter, [c], 0⟩] scope pos) (tM (ct X xd xn) wx (lcM n (own.map (·.2)) im g t m)) :=
  PEimp (pe_lc hc hN hi ok hg (fun s H C cl fp => pts_one (ht s H C cl fp)) he hs) (lc_imp (fun _ _ _ _ h => h) (fun _ _ _ h => h) (fun _ _ _ h => h) hgl)
end
end Mx
set_option Elab.async false
set_option linter.all false
set_option maxRecDepth 100000
set_option maxHeartbeats 1000000
/-! Mx12: built-in functions and types -/
namespace Mx
open PySem PySem.Spec L2 PyProof.Rows
abbrev B1 (X : Cx) (f : Value) (m : D → Option D) : Prop := Op1 X.K (fun v H Q => ∃ r, CallR X f r ∧ r [v] H Q) m
abbrev B2 (X : Cx) (f : Value) (m : D → D → Option D) : Prop := Op2 X.K (fun v u H Q => ∃ r, CallR X f r ∧ r [v, u] H Q) m
theorem callR_any {X : Cx} {f : Value} : CallR X f (fun xs H Q => ∃ r, CallR X f r ∧ r xs H Q) := fun pins s σ H xs us Q I rr ⟨r, c, h⟩ => c pins s σ H xs us Q I rr h
section
variable {X : Cx} {xd : Option Addr} {xn : Option Xn} {wx : WX} {x : Str} {p pos : Pos} {e e2 : Expr} {ma mb : EM} {bid T : String} {m : D → Option D} {m2 : D → D → Option D}
theorem me_b1 (b : B1 X (.builtin bid) m) (hg : Gl X x) (hm : X.mg x = none) (hv : bootBuiltins x = some (.builtin bid)) (he : PE X e (tM (ct X xd xn) wx ma)) (hn : x ≠ "__name__" := by decide) (hdb : (x == ("__debug__" : Str)) = false := by decide)
    (hst : starEach [e] X.env = (false, eval e X.env) :: starEach [] X.env := by rfl) (hpl : (backTo pos (starEach [] X.env)).any (·.1) = false := by rfl) : PE X (.Call (.Name x p) [e] [] pos) (tM (ct X xd xn) wx (unM m ma)) :=
  PEimp (pe_callB callR_any hg hm hv (pa_cons he pa_nil hst) hn hdb hst hpl) fun _ _ _ h => tM_un (r := fun v H Q => ∃ r, CallR X _ r ∧ r [v] H Q) b h
theorem me_ty1 (b : B1 X (.type T) m) (hg : Gl X x) (hm : X.mg x = none) (hv : bootBuiltins x = some (.type T)) (he : PE X e (tM (ct X xd xn) wx ma)) (hn : x ≠ "__name__" := by decide) (hdb : (x == ("__debug__" : Str)) = false := by decide)
    (hst : starEach [e] X.env = (false, eval e X.env) :: starEach [] X.env := by rfl) (hpl : (backTo pos (starEach [] X.env)).any (·.1) = false := by rfl) : PE X (.Call (.Name x p) [e] [] pos) (tM (ct X xd xn) wx (unM m ma)) :=
  PEimp (pe_callTy callR_any hg hm hv (pa_cons he pa_nil hst) hn hdb hst hpl) fun _ _ _ h => tM_un (r := fun v H Q => ∃ r, CallR X _ r ∧ r [v] H Q) b h
theorem me_b2 (b : B2 X (.builtin bid) m2) (hg : Gl X x) (hm : X.mg x = none) (hv : bootBuiltins x = some (.builtin bid)) (he : PE X e (tM (ct X xd xn) wx ma)) (he2 : PE X e2 (tM (ct X xd xn) wx mb)) (hn : x ≠ "__name__" := by decide) (hdb : (x == ("__debug__" : Str)) = false := by decide)
    (hs2 : starEach [e2] X.env = (false, eval e2 X.env) :: starEach [] X.env := by rfl) (hst : starEach [e, e2] X.env = (false, eval e X.env) :: starEach [e2] X.env := by rfl) (hpl : (backTo pos (starEach [e2] X.env)).any (·.1) = false := by rfl) : PE X (.Call (.Name x p) [e, e2] [] pos) (tM (ct X xd xn) wx (opM m2 ma mb)) :=
  PEimp (pe_callB callR_any hg hm hv (pa_cons he (pa_cons he2 pa_nil hs2) hst) hn hdb hst hpl) fun _ _ _ h => tM_op (r := fun v u H Q => ∃ r, CallR X _ r ∧ r [v, u] H Q) b h
/-! ### lists of one kind -/
def bls : List D → Option (List Bool)
  | [] => some []
  | .bl b :: ds => (bls ds).map (b :: ·)
  | _ => none
def nums : List D → Option (List Int)
  | [] => some []
  | .int b :: ds => (nums ds).map (b :: ·)
  | _ => none
def txts : List D → Option (List Str)
  | [] => some []
  | .str b :: ds => (txts ds).map (b :: ·)
  | _ => none
theorem bls_ok {K : PySem.W.Frag} {G : Hp} : ∀ {ds : List D} {bs : List Bool} {vs : List V}, bls ds = some bs → FL K G ds vs → vs = bs.map V.bl
  | [], bs, vs, h, f => by
    simp only [bls, Option.some.injEq] at h
    simp only [FL] at f
    subst h f
    rfl
  | d :: ds, bs, vs, h, f => by
    cases d <;> simp only [bls, reduceCtorEq] at h
    obtain ⟨cs, h1, rfl⟩ := Option.map_eq_some_iff.mp h
    simp only [FL, F] at f
    obtain ⟨v, ws, rfl, rfl, f2⟩ := f
    rw [bls_ok h1 f2]
    rfl
theorem nums_ok {K : PySem.W.Frag} {G : Hp} : ∀ {ds : List D} {bs : List Int} {vs : List V}, nums ds = some bs → FL K G ds vs → vs = bs.map V.int
  | [], bs, vs, h, f => by
    simp only [nums, Option.some.injEq] at h
    simp only [FL] at f
    subst h f
    rfl
  | d :: ds, bs, vs, h, f => by
    cases d <;> simp only [nums, reduceCtorEq] at h
    obtain ⟨cs, h1, rfl⟩ := Option.map_eq_some_iff.mp h
    simp only [FL, F] at f
    obtain ⟨v, ws, rfl, rfl, f2⟩ := f
    rw [nums_ok h1 f2]
    rfl
theorem txts_ok {K : PySem.W.Frag} {G : Hp} : ∀ {ds : List D} {bs : List Str} {vs : List V}, txts ds = some bs → FL K G ds vs → vs = bs.map V.str
  | [], bs, vs, h, f => by
    simp only [txts, Option.some.injEq] at h
    simp only [FL] at f
    subst h f
    rfl
  | d :: ds, bs, vs, h, f => by
    cases d <;> simp only [txts, reduceCtorEq] at h
    obtain ⟨cs, h1, rfl⟩ := Option.map_eq_some_iff.mp h
    simp only [FL, F] at f
    obtain ⟨v, ws, rfl, rfl, f2⟩ := f
    rw [txts_ok h1 f2]
    rfl
theorem FL.nums {K : PySem.W.Frag} {G : Hp} : ∀ (ns : List Int), FL K G (ns.map .int) (ns.map V.int)
  | [] => by simp [FL]
  | n :: ns => by
    simp only [List.map_cons, FL]
    exact ⟨_, _, rfl, by simp only [F], FL.nums ns⟩
theorem FL.strs {K : PySem.W.Frag} {G : Hp} : ∀ (ns : List Str), FL K G (ns.map .str) (ns.map V.str)
  | [] => by simp [FL]
  | n :: ns => by
    simp only [List.map_cons, FL]
    exact ⟨_, _, rfl, by simp only [F], FL.strs ns⟩
/-! ### the functions -/
def lenD (d : D) : Option D := match d with
  | .str x => if x.length ≤ 1000000 then some (.int x.length) else none
  | d => match seqI d with
    | some ds => some (.int ds.length)
    | none => none
theorem b_len : B1 X (.builtin "len") lenD := fun S G td tv tw env σ W H x z v w1 Q hK R o h q => by
  unfold lenD at h
  split at h
  · rename_i y
    split at h
    · cases h
      have := o.str
      subst this
      exact ⟨_, call_len_str, _, rfl, by rw [sizeLine_eq]; omega, q _ _ _ _ (R.push (by simp only [F]))⟩
    · cases h
  · split at h
    · cases h
      obtain ⟨a, vs, rfl, sq, fl⟩ := o.seqI R.sub (by assumption)
      exact ⟨_, call_len_seq, a, vs, rfl, sq, q _ _ _ _ (R.push (by simp only [F, fl.length]))⟩
    · cases h
def absD (d : D) : Option D := match d with
  | .int i => some (.int (if i < 0 then -i else i))
  | _ => none
theorem b_abs : B1 X (.builtin "abs") absD := fun S G td tv tw env σ W H x z v w1 Q hK R o h q => by
  unfold absD at h
  split at h
  · cases h
    have := o.int
    subst this
    exact ⟨_, call_abs, _, rfl, q _ _ _ _ (R.push (by simp only [F]))⟩
  · cases h
def maxD2 (d e : D) : Option D := match d, e with
  | .int i, .int j => some (.int (if j > i then j else i))
  | _, _ => none
def minD2 (d e : D) : Option D := match d, e with
  | .int i, .int j => some (.int (if j < i then j else i))
  | _, _ => none
theorem b_max2 (hc : X.calm = true) : B2 X (.builtin "max") maxD2 := fun S G td tv tw env σ W H x y z v u w1 w2 Q hK R o o2 h q => by
  unfold maxD2 at h
  split at h
  · cases h
    have := o.int
    have := o2.int
    subst_vars
    exact ⟨_, call_max2 hc, _, _, rfl, q _ _ _ _ (R.push (by simp only [F]))⟩
  · cases h
theorem b_min2 (hc : X.calm = true) : B2 X (.builtin "min") minD2 := fun S G td tv tw env σ W H x y z v u w1 w2 Q hK R o o2 h q => by
  unfold minD2 at h
  split at h
  · cases h
    have := o.int
    have := o2.int
    subst_vars
    exact ⟨_, call_min2 hc, _, _, rfl, q _ _ _ _ (R.push (by simp only [F]))⟩
  · cases h
def intT (d : D) : Option D := match d with
  | .int i => some (.int i)
  | .bl k => some (.int (if k then 1 else 0))
  | _ => none
theorem b_int : B1 X (.type "int") intT := fun S G td tv tw env σ W H x z v w1 Q hK R o h q => by
  unfold intT at h
  split at h
  · cases h
    have := o.int
    subst this
    exact ⟨_, call_int1, .inl ⟨_, rfl, q _ _ _ _ (R.push (by simp only [F]))⟩⟩
  · cases h
    have := o.bl
    subst this
    exact ⟨_, call_int1, .inr ⟨_, rfl, q _ _ _ _ (R.push (by simp only [F]))⟩⟩
  · cases h
def divmodD (d e : D) : Option D := match d, e with
  | .int i, .int j => if 0 < j ∧ j < 1073741824 then some (.tup [.int (i / j), .int (i % j)]) else none
  | _, _ => none
theorem b_divmod : B2 X (.builtin "divmod") divmodD := fun S G td tv tw env σ W H x y z v u w1 w2 Q hK R o o2 h q => by
  unfold divmodD at h
  split at h
  · split at h
    · cases h
      have := o.int
      have := o2.int
      subst_vars
      exact ⟨_, call_divmod, _, _, rfl, by assumption, fun p hp => q _ _ _ _ (R.newTup hp (by simp only [FL, F]; exact ⟨_, _, rfl, rfl, _, _, rfl, rfl, rfl⟩))⟩
    · cases h
  · cases h
def allD (d : D) : Option D := (lstI d).bind fun ds => (bls ds).map fun bs => .bl (bs.all _root_.id)
def anyD (d : D) : Option D := (lstI d).bind fun ds => (bls ds).map fun bs => .bl (bs.any _root_.id)
def sumD (d : D) : Option D := (lstI d).bind fun ds => (nums ds).map fun ns => .int ns.sum
theorem b_all (hc : X.calm = true) : B1 X (.builtin "all") allD := fun S G td tv tw env σ W H x z v w1 Q hK R o h q => by
  obtain ⟨ds, h1, h⟩ := Option.bind_eq_some_iff.mp h
  obtain ⟨bs, h2, rfl⟩ := Option.map_eq_some_iff.mp h
  obtain ⟨a, vs, rfl, sq, fl⟩ := o.lstI R.sub h1
  have := bls_ok h2 fl
  subst this
  exact ⟨_, cr_all hc, a, bs, rfl, sq, q _ _ _ _ (R.push (by simp only [F]))⟩
theorem b_any (hc : X.calm = true) : B1 X (.builtin "any") anyD := fun S G td tv tw env σ W H x z v w1 Q hK R o h q => by
  obtain ⟨ds, h1, h⟩ := Option.bind_eq_some_iff.mp h
  obtain ⟨bs, h2, rfl⟩ := Option.map_eq_some_iff.mp h
  obtain ⟨a, vs, rfl, sq, fl⟩ := o.lstI R.sub h1
  have := bls_ok h2 fl
  subst this
  exact ⟨_, cr_any hc, a, bs, rfl, sq, q _ _ _ _ (R.push (by simp only [F]))⟩
theorem b_sum (hc : X.calm = true) : B1 X (.builtin "sum") sumD := fun S G td tv tw env σ W H x z v w1 Q hK R o h q => by
  obtain ⟨ds, h1, h⟩ := Option.bind_eq_some_iff.mp h
  obtain ⟨ns, h2, rfl⟩ := Option.map_eq_some_iff.mp h
  obtain ⟨a, vs, rfl, sq, fl⟩ := o.lstI R.sub h1
  have := nums_ok h2 fl
  subst this
  exact ⟨_, cr_sum hc, a, ns, rfl, sq, q _ _ _ _ (R.push (by simp only [F]))⟩
def tupleD (d : D) : Option D := match lstI d with
  | some ds => some (.ptp ds)
  | none => if (tupI d).isSome then some d else none
/-- a tuple that lies there -/
theorem RR.pushT {S : Sc} {G H : Hp} {td : List D} {tv : List V} {tw : List (List Addr)} {env : Env} {σ : L2.St} {W : List (List Addr)} {a : Addr} {ds : List D} {vs : List V} (R : RR S G td tv tw env σ W H) (sq : SqT S.K G a vs) (fl : FL S.K G ds vs) : RR S G (.tup ds :: td) (.ref a :: tv) ([] :: tw) env σ W H :=
  R.push (by simp only [F]; exact ⟨a, vs, rfl, sq, fl⟩)
/-- tuple(x): a new tuple, of which the object is told; of a tuple, itself -/
theorem call_tuple_ofP : CallR X (.type "tuple") (fun xs H Q => ∃ p ys, xs = [.ref p] ∧ ((SqL X.K H p ys ∧ ∀ l o, H l = none → o.dict = none → Q (.ref l) (upd H l (.frz o (.tup ys)))) ∨ (SqT X.K H p ys ∧ Q (.ref p) H))) := by
  intro pins s σ H xs us Q I r h
  obtain ⟨p, ys, rfl, h⟩ := h
  obtain ⟨v, rfl, r1⟩ := vals1 r
  rcases h with ⟨hs, q⟩ | ⟨hs, q⟩
  · obtain rfl : v = .ref p := r1
    obtain ⟨its, rv, pl, hz⟩ := I.list hs
    refine call_tuple_list pl.isList (fun h' hk => ?_) (by rw [List.size_toArray, ← rv.length]; exact hz)
    have I1 : Inv X pins σ H { s with heap := h' } := I.kept (t' := s.toks) hk
    have I2 : Inv X pins σ (upd H h'.objs.size (.frz { cls := .type "tuple", data := .seq its.toArray } (.tup ys))) { s with heap := h'.push { cls := .type "tuple", data := .seq its.toArray } } :=
      I1.laid (t' := s.toks) (fun b o e => Heap.get?_push_of_some _ e) (Nat.le_refl _) (show ObjOk X.prog X.w _ _ _ (.frz { cls := .type "tuple", data := .seq its.toArray } (.tup ys)) from ⟨Heap.get?_push_size _ rfl, hz, its, rv, IsTup.new _ _⟩)
    exact ⟨.ref h'.objs.size, _, I2, rfl, q _ _ (I1.hok.fresh (Nat.le_refl _)) rfl⟩
  · obtain rfl : v = .ref p := r1
    obtain ⟨its, rv, pl, hz⟩ := I.tuple hs
    exact call_tuple_tup pl ⟨.ref p, H, I, rfl, q⟩
theorem b_tuple : B1 X (.type "tuple") tupleD := fun S G td tv tw env σ W H x z v w1 Q hK R o h q => by
  unfold tupleD at h
  split at h
  · cases h
    obtain ⟨a, vs, rfl, sq, fl⟩ := o.lstI R.sub (by assumption)
    exact ⟨_, call_tuple_ofP, a, vs, rfl, .inl ⟨sq, fun l ob hl hd => q _ _ _ _ (R.newPtp hl hd (hK ▸ fl))⟩⟩
  · split at h
    · rename_i h2
      cases h
      obtain ⟨ds, h1⟩ := Option.isSome_iff_exists.mp h2
      obtain ⟨a, vs, rfl, sq, fl⟩ := o.tupI R.sub h1
      exact ⟨_, call_tuple_ofP, a, vs, rfl, .inr ⟨sq, q _ _ _ _ (R.push (hK ▸ ((O.of_fz (by cases x <;> first | rfl | cases h1)).mp o).2))⟩⟩
    · cases h
def listD (d : D) : Option D := (seqI d).map .own
theorem b_list : B1 X (.type "list") listD := fun S G td tv tw env σ W H x z v w1 Q hK R o h q => by
  obtain ⟨ds, h1, rfl⟩ := Option.map_eq_some_iff.mp h
  obtain ⟨a, vs, rfl, sq, fl⟩ := o.seqI R.sub h1
  exact ⟨_, call_list_of, a, vs, rfl, sq, fun l hl => q _ _ _ _ (R.newLst hl (hK ▸ fl))⟩
end
end Mx
set_option Elab.async false
set_option linter.all false
set_option maxRecDepth 100000
set_option maxHeartbeats 1000000
/-! Mx13: isinstance; attributes; stores; append; dicts -/
namespace Mx
open PySem PySem.Spec L2 PyProof.Rows
/-! ### isinstance -/
def pyT : D → Option String
  | .non => some "NoneType"
  | .bl _ => some "bool"
  | .int _ => some "int"
  | .str _ => some "str"
  | .tup _ => some "tuple"
  | .ptp _ => some "tuple"
  | .lst _ => some "list"
  | .own _ => some "list"
  | .scr _ => some "list"
  | .dct _ _ => some "dict"
  | .odct _ _ => some "dict"
  | _ => none
def okT (t : String) : Bool := t == "NoneType" || t == "bool" || t == "int" || t == "str" || t == "tuple" || t == "list" || t == "dict"
def askT (t : String) : Bool := t == "bool" || t == "int" || t == "str" || t == "tuple" || t == "list" || t == "dict"
def isOne (t T : String) : Bool := t == T || (t == "bool" && T == "int")
theorem kit_one {t T : String} (h : okT t = true) (h2 : askT T = true) : kitB t T = some (isOne t T) := by
  simp only [okT, askT, Bool.or_eq_true, beq_iff_eq] at h h2
  rcases h with ((((((h | h) | h) | h) | h) | h) | h) <;> subst h <;> rcases h2 with (((((h | h) | h) | h) | h) | h) <;> subst h <;> decide +kernel
theorem pyT_ok {d : D} {t : String} (h : pyT d = some t) : okT t = true := by
  cases d <;> simp only [pyT, Option.some.injEq, reduceCtorEq] at h <;> subst h <;> decide +kernel
theorem pyT_ty {K : PySem.W.Frag} {G H : Hp} {d : D} {v : V} {w : List Addr} {t : String} (e : Sub G H) (h : pyT d = some t) (o : O K G H d v w) : TyX K H v (.type t) := by
  cases d <;> simp only [pyT, Option.some.injEq, reduceCtorEq] at h <;> subst h <;> simp only [O, F] at o
  · rw [o.2]; exact .base .non
  · rw [o.2]; exact .base (.bl _)
  · rw [o.2]; exact .base (.int _)
  · rw [o.2]; exact .base (.str _)
  · obtain ⟨_, a, vs, rfl, q, _⟩ := o
    rcases e.st q with (q | ⟨ob, q⟩) | ⟨ob, its, n, q, c, _⟩
    · exact .base (.tup q)
    · exact .fTuple q
    · exact .kTuple q c
  · obtain ⟨_, a, ob, vs, rfl, q, _⟩ := o
    exact .fTuple (e.get q)
  · obtain ⟨_, a, vs, rfl, q, _⟩ := o
    exact .base (.lst (e.get q))
  · obtain ⟨a, vs, fq, rfl, _, q, _⟩ := o
    exact .base (.lst q)
  · obtain ⟨_, a, vs, rfl, q, _⟩ := o
    rcases e.rdK q with q | ⟨ob, q⟩
    · exact .base (.dK q)
    · exact .fDict q
  · obtain ⟨a, vs, fq, rfl, _, q, _⟩ := o
    exact .base (.dK q)
  · obtain ⟨_, a, vs, rfl, q, _⟩ := o
    rcases e.sl q with (q | ⟨ob, q⟩) | ⟨ob, its, n, q, c, _⟩
    · exact .base (.lst q)
    · exact .base (.frz q)
    · exact .kList q c
/-- isinstance(d, one of Ts) -/
def isD (Ts : List String) (d : D) : Option D := (pyT d).bind fun t => if Ts.all askT = true then some (.bl (Ts.any (isOne t))) else none
section
variable {X : Cx} {xd : Option Addr} {xn : Option Xn} {wx : WX} {p pos p1 p2 p3 : Pos} {e : Expr} {ma : EM} {T T2 : String} {x1 x2 : Str}
theorem me_isT (hg : Gl X "isinstance") (hm : X.mg "isinstance" = none) (hg1 : Gl X x1) (hm1 : X.mg x1 = none) (hv1 : bootBuiltins x1 = some (.type T)) (he : PE X e (tM (ct X xd xn) wx ma)) (hn1 : x1 ≠ "__name__" := by decide) (hd1 : (x1 == ("__debug__" : Str)) = false := by decide)
    (hs2 : starEach [.Name x1 p1] X.env = (false, eval (.Name x1 p1) X.env) :: starEach [] X.env := by rfl) (hst : starEach [e, .Name x1 p1] X.env = (false, eval e X.env) :: starEach [.Name x1 p1] X.env := by rfl) (hpl : (backTo pos (starEach [.Name x1 p1] X.env)).any (·.1) = false := by rfl) :
    PE X (.Call (.Name "isinstance" p) [e, .Name x1 p1] [] pos) (tM (ct X xd xn) wx (unM (isD [T]) ma)) :=
  PEimp (pe_callB call_isi hg hm PyProof.Rows.boot_isinstance (pa_cons he (pa_cons (pe_bltn (v := .ty T) hg1 hm1 hv1 rfl hn1 hd1) pa_nil hs2) hst) (by decide) (by decide) hst hpl) fun σ H Q h => by
  obtain ⟨S, G, td, tv, tw, env, W, hC, R, q⟩ := h
  have hK : S.K = X.K := congrArg Ct.K hC
  rcases bindE q with ⟨d, e1, h1, q⟩ | ⟨y, e1, h1, q⟩
  · refine tM_mk hC R (.inl ⟨d, e1, h1, fun v tw1 G1 W1 H1 R1 => ?_⟩)
    obtain ⟨x', z, d1, hf, qq⟩ := op1_ok q
    obtain ⟨t, ht, hf⟩ := Option.bind_eq_some_iff.mp hf
    split at hf
    · rename_i ha
      cases hf
      obtain ⟨w1, o1⟩ := R1.look d1
      obtain ⟨_, tw4, _, R4⟩ := R1.pop
      have k := kit_ty (K := X.K) (kit_one (pyT_ok ht) (by simpa using ha) : kitB t T = some _)
      refine ⟨v, .ty T, .type t, .type T, _, rfl, .ty T, hK ▸ pyT_ty R1.sub ht o1, k, qq _ _ _ _ _ (R4.push (by simp [F, isOne]))⟩
    · cases hf
  · exact tM_mk hC R (.inr ⟨y, e1, h1, q⟩)
theorem me_isT2 {k : Nat} (hg : Gl X "isinstance") (hm : X.mg "isinstance" = none) (hg1 : Gl X x1) (hm1 : X.mg x1 = none) (hv1 : bootBuiltins x1 = some (.type T)) (hg2 : Gl X x2) (hm2 : X.mg x2 = none) (hv2 : bootBuiltins x2 = some (.type T2)) (he : PE X e (tM (ct X xd xn) wx ma))
    (hn1 : x1 ≠ "__name__" := by decide) (hd1 : (x1 == ("__debug__" : Str)) = false := by decide) (hn2 : x2 ≠ "__name__" := by decide) (hd2 : (x2 == ("__debug__" : Str)) = false := by decide)
    (hs3 : starEach [.Name x2 p2] X.env = (false, eval (.Name x2 p2) X.env) :: starEach [] X.env := by rfl) (hs4 : starEach [.Name x1 p1, .Name x2 p2] X.env = (false, eval (.Name x1 p1) X.env) :: starEach [.Name x2 p2] X.env := by rfl)
    (hs2 : starEach [.Tuple [.Name x1 p1, .Name x2 p2] k p3] X.env = (false, eval (.Tuple [.Name x1 p1, .Name x2 p2] k p3) X.env) :: starEach [] X.env := by rfl) (hst : starEach [e, .Tuple [.Name x1 p1, .Name x2 p2] k p3] X.env = (false, eval e X.env) :: starEach [.Tuple [.Name x1 p1, .Name x2 p2] k p3] X.env := by rfl) (hpl : (backTo pos (starEach [.Tuple [.Name x1 p1, .Name x2 p2] k p3] X.env)).any (·.1) = false := by rfl) :
    PE X (.Call (.Name "isinstance" p) [e, .Tuple [.Name x1 p1, .Name x2 p2] k p3] [] pos) (tM (ct X xd xn) wx (unM (isD [T, T2]) ma)) :=
  PEimp (pe_callB call_isiT hg hm PyProof.Rows.boot_isinstance (pa_cons he (pa_cons (pe_tup (pa_cons (pe_bltn (v := .ty T) hg1 hm1 hv1 rfl hn1 hd1) (pa_cons (pe_bltn (v := .ty T2) hg2 hm2 hv2 rfl hn2 hd2) pa_nil hs3) hs4)) pa_nil hs2) hst) (by decide) (by decide) hst hpl) fun σ H Q h => by
  obtain ⟨S, G, td, tv, tw, env, W, hC, R, q⟩ := h
  have hK : S.K = X.K := congrArg Ct.K hC
  rcases bindE q with ⟨d, e1, h1, q⟩ | ⟨y, e1, h1, q⟩
  · refine tM_mk hC R (.inl ⟨d, e1, h1, fun v tw1 G1 W1 H1 R1 => ⟨by rw [sizeLine_eq]; show 2 ≤ 16777216; decide, fun tp htp => ?_⟩⟩)
    obtain ⟨x', z, d1, hf, qq⟩ := op1_ok q
    obtain ⟨t, ht, hf⟩ := Option.bind_eq_some_iff.mp hf
    split at hf
    · rename_i ha
      cases hf
      have R2 := R1.grow (H' := upd H1 tp (.tup [.ty T, .ty T2])) (Ext.new htp)
      obtain ⟨w1, o1⟩ := R2.look d1
      obtain ⟨_, tw4, _, R4⟩ := R2.pop
      simp only [List.all_cons, List.all_nil, Bool.and_true, Bool.and_eq_true] at ha
      have k1 := kit_ty (K := X.K) (kit_one (pyT_ok ht) ha.1 : kitB t T = some _)
      have k2 := kit_ty (K := X.K) (kit_one (pyT_ok ht) ha.2 : kitB t T2 = some _)
      refine ⟨v, tp, [.ty T, .ty T2], .type t, [.type T, .type T2], isOne t T || isOne t T2, rfl, upd_same, .cons (.ty T) (.cons (.ty T2) .nil), hK ▸ pyT_ty R2.sub ht o1, ?_, qq _ _ _ _ _ (R4.push (by simp [F]))⟩
      refine kitAny_cons k1 (fun z => ?_) (fun z => by simp [z])
      refine kitAny_cons k2 (fun y => ?_) (fun y => by simp [y])
      rw [z, y]
      rfl
    · cases hf
  · exact tM_mk hC R (.inr ⟨y, e1, h1, q⟩)
/-- isinstance(d, c), c a class of the text: an instance of it -/
def isCD (c : Str) (d : D) : Option D := match d with
  | .obj c' _ _ => if c' = c then some (.bl true) else none
  | _ => none
theorem me_isC {c : Str} (hg : Gl X "isinstance") (hm : X.mg "isinstance" = none) (ic : C8.InsC X.K (He.ga X.K c)) (hg1 : Gl X x1) (hm1 : X.mg x1 = some (.ref (He.ga X.K c))) (he : PE X e (tM (ct X xd xn) wx ma)) (hd1 : (x1 == ("__debug__" : Str)) = false := by decide)
    (hs2 : starEach [.Name x1 p1] X.env = (false, eval (.Name x1 p1) X.env) :: starEach [] X.env := by rfl) (hst : starEach [e, .Name x1 p1] X.env = (false, eval e X.env) :: starEach [.Name x1 p1] X.env := by rfl) (hpl : (backTo pos (starEach [.Name x1 p1] X.env)).any (·.1) = false := by rfl) :
    PE X (.Call (.Name "isinstance" p) [e, .Name x1 p1] [] pos) (tM (ct X xd xn) wx (unM (isCD c) ma)) :=
  PEimp (pe_callB (C8.call_isC ic) hg hm PyProof.Rows.boot_isinstance (pa_cons he (pa_cons (pe_glob (v := .ref (He.ga X.K c)) hg1 hm1 rfl hd1) pa_nil hs2) hst) (by decide) (by decide) hst hpl) fun σ H Q h => by
  obtain ⟨S, G, td, tv, tw, env, W, hC, R, q⟩ := h
  have hK : S.K = X.K := congrArg Ct.K hC
  rcases bindE q with ⟨d, e1, h1, q⟩ | ⟨y, e1, h1, q⟩
  · refine tM_mk hC R (.inl ⟨d, e1, h1, fun v tw1 G1 W1 H1 R1 => ?_⟩)
    obtain ⟨x', z, d1, hf, qq⟩ := op1_ok q
    unfold isCD at hf
    split at hf
    · split at hf
      · rename_i hc
        cases hf
        subst hc
        obtain ⟨w1, o1⟩ := R1.look d1
        obtain ⟨_, tw4, _, R4⟩ := R1.pop
        simp only [O, F] at o1
        obtain ⟨_, a, dx, vs, rfl, q1, _⟩ := o1
        have ea : H1 a = some (.ins (He.ga X.K _) dx _) := hK ▸ R1.sub.get q1
        exact ⟨a, dx, _, rfl, ea, qq _ _ _ _ _ (R4.push (by simp only [F]))⟩
      · cases hf
    · cases hf
  · exact tM_mk hC R (.inr ⟨y, e1, h1, q⟩)
end
/-! ### attributes -/
def fieldOf : List Str → List D → Str → Option D
  | n :: ns, x :: xs, f => if f = n then some x else fieldOf ns xs f
  | _, _, _ => none
theorem fieldOf_F {K : PySem.W.Frag} {G : Hp} {f : Str} : ∀ {ns : List Str} {xs : List D} {vs : List V} {x : D}, fieldOf ns xs f = some x → FL K G xs vs → ∃ v, (ns.zip vs).lookup f = some v ∧ F K G x v
  | [], _, _, _, h, _ => by simp [fieldOf] at h
  | _ :: _, [], _, _, h, _ => by simp [fieldOf] at h
  | n :: ns, y :: xs, vs, x, h, fl => by
    simp only [FL] at fl
    obtain ⟨v, ws, rfl, f1, f2⟩ := fl
    simp only [fieldOf] at h
    simp only [List.zip_cons_cons, List.lookup]
    split at h
    · rename_i e
      cases h
      rw [beq_iff_eq.mpr e]
      exact ⟨v, rfl, f1⟩
    · rename_i e
      rw [beq_eq_false_iff_ne.mpr e]
      exact fieldOf_F h f2
theorem fieldOf_O {K : PySem.W.Frag} {G H : Hp} {f : Str} : ∀ {ns : List Str} {xs : List D} {vs : List V} {x : D} {w : List Addr}, fieldOf ns xs f = some x → OL K G H xs vs w → ∃ v w', (ns.zip vs).lookup f = some v ∧ O K G H x v w'
  | [], _, _, _, _, h, _ => by simp [fieldOf] at h
  | _ :: _, [], _, _, _, h, _ => by simp [fieldOf] at h
  | n :: ns, y :: xs, vs, x, w, h, fl => by
    simp only [OL] at fl
    obtain ⟨v, ws, g1, g2, rfl, _, f1, f2⟩ := fl
    simp only [fieldOf] at h
    simp only [List.zip_cons_cons, List.lookup]
    split at h
    · rename_i e
      cases h
      rw [beq_iff_eq.mpr e]
      exact ⟨v, _, rfl, f1⟩
    · rename_i e
      rw [beq_eq_false_iff_ne.mpr e]
      exact fieldOf_O h f2
def fldD (c f : Str) (d : D) : Option D := match d with
  | .obj c' ns xs => if c' = c then fieldOf ns xs f else none
  | .oobj c' ns xs => if c' = c then match fieldOf ns xs f with
    | some x => if x.fz = true then some x else none
    | none => none
    else none
  | _ => none
/-- d.f = x, x frozen -/
def putFld : List Str → List D → Str → D → Option (List Str × List D)
  | [], [], f, x => some ([f], [x])
  | n :: ns, y :: ys, f, x => if n = f then some (n :: ns, x :: ys) else match putFld ns ys f x with
    | some (ms, zs) => some (n :: ms, y :: zs)
    | none => none
  | _, _, _, _ => none
theorem putFld_ok {K : PySem.W.Frag} {G H : Hp} {f : Str} {x : D} {v : V} (fx : F K G x v) : ∀ {ns ms : List Str} {xs zs : List D} {vs : List V} {w : List Addr}, putFld ns xs f x = some (ms, zs) → fzL xs = true → ns.length = vs.length → OL K G H xs vs w →
    ∃ us, putF f v (ns.zip vs) = ms.zip us ∧ ms.length = us.length ∧ FL K G zs us
  | [], ms, [], zs, vs, w, h, _, _, o => by
    simp only [putFld, Option.some.injEq, Prod.mk.injEq] at h
    obtain ⟨rfl, rfl⟩ := h
    simp only [OL] at o
    rw [o.1]
    exact ⟨[v], rfl, rfl, by simp only [FL]; exact ⟨v, [], rfl, fx, rfl⟩⟩
  | [], _, _ :: _, _, _, _, h, _, _, _ => by simp [putFld] at h
  | _ :: _, _, [], _, _, _, h, _, _, _ => by simp [putFld] at h
  | n :: ns, ms, y :: ys, zs, vs, w, h, hz, hl, o => by
    simp only [OL] at o
    obtain ⟨u, ws, g1, g2, rfl, _, f1, f2⟩ := o
    simp only [fzL, List.all_cons, Bool.and_eq_true] at hz
    simp only [putFld] at h
    simp only [List.zip_cons_cons, putF]
    split at h
    · rename_i e
      cases h
      rw [if_pos e]
      obtain ⟨_, fl⟩ := OL.to_FL hz.2 f2
      refine ⟨v :: ws, rfl, by simpa using hl, ?_⟩
      simp only [FL]
      exact ⟨v, ws, rfl, fx, fl⟩
    · rename_i e
      split at h
      · rename_i ms' zs' hp
        cases h
        rw [if_neg e]
        obtain ⟨us, e1, e2, fl⟩ := putFld_ok fx hp hz.2 (by simpa using hl) f2
        refine ⟨u :: us, by rw [e1]; rfl, by simp [e2], ?_⟩
        simp only [FL]
        exact ⟨u, us, rfl, ((O.of_fz hz.1).mp f1).2, fl⟩
      · cases h
section
variable {X : Cx} {xd : Option Addr} {xn : Option Xn} {wx : WX} {p pos p1 p2 p3 : Pos} {e o value : Expr} {ma mb m mo mx : EM} {c f : Str} {x1 : Str}
theorem me_fld (cl : Cls X.K (He.ga X.K c)) (na : NoAttr X.K (He.ga X.K c) f) (he : PE X e (tM (ct X xd xn) wx ma)) (hb : attributeBase e f X.env (eval e X.env) = eval e X.env := by rfl) : PE X (.Attribute e f pos) (tM (ct X xd xn) wx (unM (fldD c f) ma)) :=
  PEimp (pe_fld he hb) fun σ H Q h => by
  obtain ⟨S, G, td, tv, tw, env, W, hC, R, q⟩ := h
  have hK : S.K = X.K := congrArg Ct.K hC
  rcases bindE q with ⟨d, e1, h1, q⟩ | ⟨y, e1, h1, q⟩
  · refine tM_mk hC R (.inl ⟨d, e1, h1, fun v tw1 G1 W1 H1 R1 => ?_⟩)
    obtain ⟨x', z, d1, hf, qq⟩ := op1_ok q
    obtain ⟨w1, o1⟩ := R1.look d1
    obtain ⟨_, tw4, _, R4⟩ := R1.pop
    unfold fldD at hf
    split at hf
    · split at hf
      · rename_i hc
        subst hc
        simp only [O, F] at o1
        obtain ⟨_, a, dx, vs, rfl, q1, q2, q3⟩ := o1
        obtain ⟨v, l, fv⟩ := fieldOf_F hf q3
        have ea : H1 a = some (.ins (He.ga X.K _) dx _) := hK ▸ R1.sub.get q1
        exact ⟨a, _, dx, _, v, rfl, ea, cl, na, l, qq _ _ _ _ _ (R4.push fv)⟩
      · cases hf
    · split at hf
      · rename_i hc
        subst hc
        split at hf
        · rename_i x hx
          split at hf
          · rename_i hz
            cases hf
            simp only [O] at o1
            obtain ⟨a, dx, vs, fq, rfl, _, q1, _, q2, q3⟩ := o1
            obtain ⟨v, w', l, ov⟩ := fieldOf_O hx q3
            have ea : H1 a = some (.ins (He.ga X.K _) dx _) := hK ▸ q1
            exact ⟨a, _, dx, _, v, rfl, ea, cl, na, l, qq _ _ _ _ _ (R4.push ((O.of_fz hz).mp ov).2)⟩
          · cases hf
        · cases hf
      · cases hf
    · cases hf
  · exact tM_mk hC R (.inr ⟨y, e1, h1, q⟩)
/-- C.f, a number of the class -/
theorem me_cls {C : Addr} {mc u : Value} {i : Int} (hg : Gl X x1) (hm : X.mg x1 = some (.ref C)) (r : ClX.CRead X.K C mc) (k : ClX.CVal X.K C mc f (.int i) u) (hd1 : (x1 == ("__debug__" : Str)) = false := by decide) (hb : attributeBase (.Name x1 p) f X.env (eval (.Name x1 p) X.env) = eval (.Name x1 p) X.env := by rfl) :
    PE X (.Attribute (.Name x1 p) f pos) (tM (ct X xd xn) wx (cstM (.int i))) :=
  PEimp (ClX.pe_cval (pe_glob (v := .ref C) hg hm rfl hd1) hb) fun σ H Q h => by
  obtain ⟨S, G, td, tv, tw, env, W, hC, R, q⟩ := h
  exact ⟨C, mc, .int i, u, rfl, r, k, q _ _ _ _ _ (R.push (by simp only [F]))⟩
/-! ### stores -/
/-- slot i's value taken out, changed, put back -/
def modS (i : Nat) (f : D → Option D) (e : Env) : Option Env := match e[i]? with
  | some (some d) => match f d with
    | some d' => some (e.set i (some d'))
    | none => none
  | _ => none
theorem modS_ok {i : Nat} {f : D → Option D} {e e' : Env} (h : modS i f e = some e') : ∃ d d', e[i]? = some (some d) ∧ f d = some d' ∧ e' = e.set i (some d') := by
  unfold modS at h
  split at h
  · split at h
    · cases h
      exact ⟨_, _, by assumption, by assumption, rfl⟩
    · cases h
  · cases h
/-- the change of a slot's own value at the states -/
theorem RR.mod {S : Sc} {G H : Hp} {td : List D} {tv : List V} {tw : List (List Addr)} {env : Env} {σ : L2.St} {W : List (List Addr)} {i : Nat} {d d' : D} {P : Addr → HO → Prop} (R : RR S G td tv tw env σ W H) (he : env[i]? = some (some d)) (hd : ∀ j, d' ≠ .rf j)
    (h : ∀ v w, O S.K G H d v w → ∃ a ho, v = .ref a ∧ a ∈ w ∧ P a ho ∧ O S.K G (upd H a ho) d' v w) : ∃ a ho, σ[i]? = some (some (.ref a)) ∧ P a ho ∧ ∃ W', RR S G td tv tw (env.set i (some d')) σ W' (upd H a ho) := by
  obtain ⟨v, w, hs, hw, ov⟩ := R.sl.get he
  obtain ⟨a, ho, rfl, ha, hp, o2⟩ := h v w ov
  obtain ⟨v2, w2, hs2, R2⟩ := R.take he
  rw [hs] at hs2
  cases hs2
  have ht := R2.tl
  simp only [Tl] at ht
  obtain ⟨_, _, w3, _, e1, e2, h1, _⟩ := ht
  cases e1
  cases e2
  have ov2 : O S.K G H d (.ref a) w2 := by cases d <;> first | exact h1 | (simp only [O] at ov)
  obtain ⟨a', ho', e3, ha', hp', o3⟩ := h _ w2 ov2
  cases e3
  have R3 := R2.change ha' o3
  have hlen : i < env.length := (List.getElem?_eq_some_iff.mp he).1
  have R4 := R3.back (i := i) (by rw [List.getElem?_set_self hlen]) hs hd
  rw [List.set_set] at R4
  exact ⟨a, ho', hs, hp', _, R4⟩
def fldS (i : Nat) (c f : Str) (m : EM) : SM := fun env => bindS (m env) fun x e => match val e x with
  | none => .bad
  | some y => match modS i (fun d => match d with
    | .oobj c' ns xs => if c' = c ∧ fzL xs = true ∧ ns.length < 100 then (putFld ns xs f y).map fun z => .oobj c' z.1 z.2 else none
    | _ => none) e with
    | none => .bad
    | some e' => .nx e'
theorem ms_fld {i : Nat} {ro : List Bool} (cl : Cls X.K (He.ga X.K c)) (na : NoAttr X.K (He.ga X.K c) f) (hN : X.N[i]? = some x1) (hv : Vis X.env.scope x1) (hm : PE X value (tM (ct X xd xn) wx m)) (hs : swapsWith value (some (.Attribute (.Name x1 p) f p1)) pos.line X.env = pure false := by rfl)
    (hd : (x1 == ("__debug__" : Str)) = false := by decide) (hcd : (x1 == ("__classdict__" : Str)) = false := by decide) : PS X (.Assign [.Attribute (.Name x1 p) f p1] value pos) (tMS (ct X xd xn) wx ro (fldS i c f m)) :=
  PSimp (ps_fld (pe_var hN hv hd hcd) hm hs) fun D' σ H h => by
  obtain ⟨S, G, td, tv, tw, env, W, hC, nr, R, q⟩ := h
  have hK : S.K = X.K := congrArg Ct.K hC
  rcases bindP q with ⟨d, e1, h1, q⟩ | ⟨y, e1, h1, q⟩
  · refine tM_mk hC R (.inl ⟨d, e1, h1, fun v tw1 G1 W1 H1 R1 => ?_⟩)
    cases hv1 : val e1 d with
    | none => rw [hv1] at q; exact q.elim
    | some y =>
      rw [hv1] at q
      simp only at q
      obtain ⟨G2, tw2, R2, s2, fy⟩ := R1.frzTop hv1
      split at q
      · exact q.elim
      · rename_i e' hm2
        obtain ⟨d0, d', he, hf, rfl⟩ := modS_ok hm2
        cases d0 <;> simp only [reduceCtorEq] at hf
        rename_i c' ns xs
        split at hf
        · rename_i hc
          obtain ⟨rfl, hz, hl100⟩ := hc
          obtain ⟨⟨ms, zs⟩, hp, rfl⟩ := Option.map_eq_some_iff.mp hf
          obtain ⟨a, ho, hs1, ⟨dx, fs, hP1, hP2, hP3⟩, W', R3⟩ := R2.mod (d' := .oobj c' ms zs) (P := fun a ho => ∃ dx fs, H1 a = some (.ins (He.ga S.K c') dx fs) ∧ fs.length < 1000 ∧ ho = .ins (He.ga S.K c') dx (putF f v fs)) he (fun j z => by cases z) (fun v0 w0 o0 => by
            simp only [O] at o0
            obtain ⟨a, dx, vs, fq, rfl, rfl, q1, q2, q3, q4⟩ := o0
            obtain ⟨us, u1, u2, u3⟩ := putFld_ok fy hp hz q3 q4
            obtain ⟨rfl, _⟩ := OL.to_FL hz q4
            refine ⟨a, .ins (He.ga S.K c') dx (putF f v (ns.zip vs)), rfl, List.mem_cons_self .., ⟨dx, ns.zip vs, q1, ?_, rfl⟩, ?_⟩
            · rw [List.length_zip]; omega
            · simp only [O]
              exact ⟨a, dx, us, [], rfl, rfl, by rw [upd_same, u1], q2, u2, OL.of_FL u3⟩)
          refine ⟨.ref a, hs1, a, _, dx, fs, rfl, hK ▸ hP1, cl, na, hP2, ?_⟩
          subst hP3
          exact q _ _ _ _ _ (hK ▸ R3) Keep.refl
        · cases hf
  · exact tM_mk hC R (.inr ⟨y, e1, h1, fun cls od tw' G' W' H' R' xr => q cls od tw' G' W' H' R' xr⟩)
end
end Mx
set_option Elab.async false
set_option linter.all false
set_option maxRecDepth 100000
set_option maxHeartbeats 1000000
/-! Mx14: stores into lists and dicts, append; dicts -/
namespace Mx
open PySem PySem.Spec L2 PyProof.Rows
/-! ### keys of dicts -/
def keyI : D → Option Key
  | .int i => some (.inl i)
  | .str x => some (.inr x)
  | _ => none
theorem keyI_ok {K : PySem.W.Frag} {G H : Hp} {d : D} {k : Key} {v : V} {w : List Addr} (h : keyI d = some k) (o : O K G H d v w) : v = kV k := by
  cases d <;> simp only [keyI, Option.some.injEq, reduceCtorEq] at h <;> subst h <;> simp only [O] at o
  · exact o.2
  · exact o.2
def getKey : List Key → List D → Key → Option D
  | k :: ks, x :: xs, j => if k = j then some x else getKey ks xs j
  | _, _, _ => none
def putKey : List Key → List D → Key → D → Option (List Key × List D)
  | [], [], j, y => some ([j], [y])
  | k :: ks, x :: xs, j, y => if k = j then some (k :: ks, y :: xs) else match putKey ks xs j y with
    | some (ls, zs) => some (k :: ls, x :: zs)
    | none => none
  | _, _, _, _ => none
theorem getKey_F {K : PySem.W.Frag} {G : Hp} {j : Key} : ∀ {ks : List Key} {xs : List D} {vs : List V}, ks.length = vs.length → FL K G xs vs →
    (getKey ks xs j = none ∧ valV (ks.zip vs) j = none) ∨ ∃ x v, getKey ks xs j = some x ∧ valV (ks.zip vs) j = some v ∧ F K G x v
  | [], xs, vs, hl, f => by
    have : vs = [] := List.eq_nil_of_length_eq_zero hl.symm
    subst this
    exact .inl ⟨rfl, rfl⟩
  | k :: ks, [], vs, hl, f => by
    simp only [FL] at f
    subst f
    cases hl
  | k :: ks, x :: xs, vs, hl, f => by
    simp only [FL] at f
    obtain ⟨v, ws, rfl, f1, f2⟩ := f
    simp only [List.zip_cons_cons, getKey]
    by_cases e : k = j
    · rw [if_pos e, valV_pos (p := (k, v)) e]
      exact .inr ⟨x, v, rfl, rfl, f1⟩
    · rw [if_neg e, valV_neg (p := (k, v)) e]
      exact getKey_F (by simpa using hl) f2
/-- the keys are told apart -/
def ndK : List Key → Bool
  | [] => true
  | k :: ks => (ks.all fun j => decide (j ≠ k)) && ndK ks
theorem map_other {j : Key} {v : V} : ∀ {kvs : List (Key × V)}, j ∉ kvs.map (·.1) → kvs.map (fun kv => if kv.1 = j then (kv.1, v) else kv) = kvs
  | [], _ => rfl
  | (k, u) :: kvs, h => by
    simp only [List.map_cons, List.mem_cons, not_or] at h
    rw [List.map_cons, if_neg (fun z => h.1 z.symm), map_other h.2]
theorem putKey_F {K : PySem.W.Frag} {G : Hp} {j : Key} {y : D} {u : V} (fy : F K G y u) : ∀ {ks ls : List Key} {xs zs : List D} {vs : List V}, putKey ks xs j y = some (ls, zs) → ndK ks = true → ks.length = vs.length → FL K G xs vs →
    ∃ us, putK (ks.zip vs) j u = ls.zip us ∧ ls.length = us.length ∧ FL K G zs us
  | [], ls, [], zs, vs, h, _, hl, _ => by
    simp only [putKey, Option.some.injEq, Prod.mk.injEq] at h
    obtain ⟨rfl, rfl⟩ := h
    have : vs = [] := List.eq_nil_of_length_eq_zero hl.symm
    subst this
    exact ⟨[u], rfl, rfl, by simp only [FL]; exact ⟨u, [], rfl, fy, rfl⟩⟩
  | [], _, _ :: _, _, _, h, _, _, _ => by simp [putKey] at h
  | _ :: _, _, [], _, _, h, _, _, _ => by simp [putKey] at h
  | k :: ks, ls, x :: xs, zs, vs, h, nd, hl, f => by
    simp only [FL] at f
    obtain ⟨v, ws, rfl, f1, f2⟩ := f
    simp only [ndK, Bool.and_eq_true, List.all_eq_true, decide_eq_true_eq] at nd
    have hl2 : ks.length = ws.length := by simpa using hl
    have hk : ∀ j', j' ∉ ks → j' ∉ (ks.zip ws).map (·.1) := fun j' h' z => by
      rw [List.map_fst_zip (by omega)] at z
      exact h' z
    simp only [putKey] at h
    simp only [List.zip_cons_cons]
    split at h
    · rename_i e
      cases h
      subst e
      have nk : k ∉ ks := fun z => nd.1 k z rfl
      refine ⟨u :: ws, ?_, by simpa using hl, by simp only [FL]; exact ⟨u, ws, rfl, fy, f2⟩⟩
      unfold putK
      rw [if_pos (by simp), List.map_cons, map_other (hk k nk)]
      simp
    · rename_i e
      split at h
      · rename_i ls' zs' hp
        cases h
        obtain ⟨us, e1, e2, fl⟩ := putKey_F fy hp nd.2 hl2 f2
        refine ⟨v :: us, ?_, by simp [e2], by simp only [FL]; exact ⟨v, us, rfl, f1, fl⟩⟩
        rw [List.zip_cons_cons, ← e1]
        unfold putK
        have e' : (decide (k = j)) = false := decide_eq_false e
        simp only [List.any_cons, e', Bool.false_or, List.map_cons, if_neg e, List.cons_append]
        split <;> rfl
      · cases h
/-! ### o[i] = .., o a list or a dict that a slot holds -/
/-- d[k] = y -/
def putD (k y : D) (d : D) : Option D := match d with
  | .own ds => match k with
    | .int n => if fzL ds = true then (ixN ds.length n).map fun j => .own (ds.set j y) else none
    | _ => none
  | .odct ks xs => match keyI k with
    | some j => if fzL xs = true ∧ ndK ks = true ∧ ks.length < 1000000 then (putKey ks xs j y).map fun z => .odct z.1 z.2 else none
    | none => none
  | _ => none
def there (e : Env) (i : Nat) : Bool := match e[i]? with
  | some (some _) => true
  | _ => false
theorem there_ok {e : Env} {i : Nat} (h : there e i = true) : ∃ d, e[i]? = some (some d) := by
  unfold there at h
  split at h
  · exact ⟨_, by assumption⟩
  · cases h
def subG (i : Nat) (im : EM) : GM := fun d e => if there e i = true then match im e with
  | .ok k e' => match deref e' k with
    | some k' => match val e' d with
      | some y => modS i (putD k' y) e'
      | none => none
    | none => none
  | _ => none
  else none
theorem FL.set {K : PySem.W.Frag} {G : Hp} {y : D} {u : V} (fy : F K G y u) : ∀ {ds : List D} {vs : List V} (j : Nat), FL K G ds vs → FL K G (ds.set j y) (vs.set j u)
  | [], vs, j, f => by
    simp only [FL] at f
    subst f
    simp [FL]
  | d :: ds, vs, 0, f => by
    simp only [FL] at f
    obtain ⟨v, ws, rfl, f1, f2⟩ := f
    simp only [List.set_cons_zero, FL]
    exact ⟨u, ws, rfl, fy, f2⟩
  | d :: ds, vs, j + 1, f => by
    simp only [FL] at f
    obtain ⟨v, ws, rfl, f1, f2⟩ := f
    simp only [List.set_cons_succ, FL]
    exact ⟨v, _, rfl, f1, FL.set fy j f2⟩
section
variable {X : Cx} {xd : Option Addr} {xn : Option Xn} {wx : WX} {p pos p1 p2 p3 : Pos} {e o i : Expr} {ma mb m mo mx im : EM} {c f : Str} {x : Str} {ro : List Bool} {s : Nat}
def rPut : TSet := fun o i v H Q => rSetL o i v H Q ∨ rSetD o i v H Q
theorem set_any (hu : X.A.units + 1 < cLine) : PSet X rPut := fun pins s σ H o i v ov iv u Q I ro ri rv h => h.elim (fun z => set_list pins s σ H o i v ov iv u Q I ro ri rv z) fun z => set_dict hu pins s σ H o i v ov iv u Q I ro ri rv z
theorem mg_sub (hu : X.A.units + 1 < cLine) (hN : X.N[s]? = some x) (hv : Vis X.env.scope x) (hi : PE X i (tM (ct X xd xn) wx im)) (hd : (x == ("__debug__" : Str)) = false := by decide) (hcd : (x == ("__classdict__" : Str)) = false := by decide)
    (ha : ∀ v, assign (.Subscript (.Name x p) i pos) X.env v = (do
      let ov ← holding [v] (eval (.Name x p) X.env)
      let iv ← holding [v, ov] (eval i X.env)
      standAt pos
      holding [v, ov, iv] (setItem ov iv v)
      release [v, ov, iv] []) := by intro _; rfl) : PG X (.Subscript (.Name x p) i pos) (tMG (ct X xd xn) ro (subG s im)) :=
  PGimp (pg_sub (pe_var hN hv hd hcd) hi (set_any hu) ha) fun v σ H Q h => by
  obtain ⟨S, G, d, td, tv, tw, env, W, env', hC, nr, nd, R, hm, q⟩ := h
  have hK : S.K = X.K := congrArg Ct.K hC
  unfold subG at hm
  split at hm
  · rename_i ht
    obtain ⟨d9, h9⟩ := there_ok ht
    obtain ⟨v0, w0, hs0, _, _⟩ := R.sl.get h9
    refine ⟨v0, hs0, ?_⟩
    split at hm
    · rename_i k e1 hi2
      split at hm
      · rename_i k' hk
        split at hm
        · rename_i y hy
          obtain ⟨d0, d', he, hf, rfl⟩ := modS_ok hm
          refine tM_mk hC R (.inl ⟨k, e1, hi2, fun ky tw1 G1 W1 H1 R1 => ?_⟩)
          obtain ⟨w1, ok⟩ := R1.look hk
          obtain ⟨_, tw2, _, R2⟩ := R1.pop
          obtain ⟨G3, tw3, R3, s3, fy⟩ := R2.frzTop hy
          cases d0 <;> simp only [putD, reduceCtorEq] at hf
          · rename_i ds
            cases k' <;> simp only [reduceCtorEq] at hf
            rename_i n
            have hky := ok.int
            subst hky
            split at hf
            · rename_i hz
              obtain ⟨j, hj, rfl⟩ := Option.map_eq_some_iff.mp hf
              obtain ⟨a, ho, hs1, ⟨vs, hP1, hP2, hP3⟩, W', R4⟩ := R3.mod (d' := .own (ds.set j y)) (P := fun a ho => ∃ vs, H1 a = some (.lst vs) ∧ vs.length = ds.length ∧ ho = .lst (vs.set j v)) he (fun j z => by cases z) (fun v1 w1 o0 => by
                simp only [O] at o0
                obtain ⟨a, vs, fq, rfl, rfl, q1, q2, q3⟩ := o0
                obtain ⟨rfl, fl⟩ := OL.to_FL hz q3
                refine ⟨a, .lst (vs.set j v), rfl, List.mem_cons_self .., ⟨vs, q1, fl.length.symm, rfl⟩, ?_⟩
                simp only [O]
                exact ⟨a, _, [], rfl, rfl, upd_same, q2, OL.of_FL (FL.set fy j fl)⟩)
              rw [hs0] at hs1
              cases hs1
              subst hP3
              exact .inl ⟨a, vs, n, j, rfl, rfl, hP1, by rw [hP2]; exact hj, q _ _ _ _ _ R4 Keep.refl⟩
            · cases hf
          · rename_i ks xs
            split at hf
            · rename_i j hj
              have hky := keyI_ok hj ok
              subst hky
              split at hf
              · rename_i hz
                obtain ⟨⟨ls, zs⟩, hp, rfl⟩ := Option.map_eq_some_iff.mp hf
                obtain ⟨a, ho, hs1, ⟨vs, hP1, hP2, hP3⟩, W', R4⟩ := R3.mod (d' := .odct ls zs) (P := fun a ho => ∃ vs, H1 a = some (.dK (ks.zip vs)) ∧ ks.length = vs.length ∧ ho = .dK (putK (ks.zip vs) j v)) he (fun j z => by cases z) (fun v1 w1 o0 => by
                  simp only [O] at o0
                  obtain ⟨a, vs, fq, rfl, rfl, q1, q2, q3, q4⟩ := o0
                  obtain ⟨rfl, fl⟩ := OL.to_FL hz.1 q4
                  obtain ⟨us, u1, u2, u3⟩ := putKey_F fy hp hz.2.1 q3 fl
                  refine ⟨a, .dK (putK (ks.zip vs) j v), rfl, List.mem_cons_self .., ⟨vs, q1, q3, rfl⟩, ?_⟩
                  simp only [O]
                  exact ⟨a, us, [], rfl, rfl, by rw [upd_same, u1], q2, u2, OL.of_FL u3⟩)
                rw [hs0] at hs1
                cases hs1
                subst hP3
                refine .inr ⟨a, _, rfl, DPut.k hP1 ?_, q _ _ _ _ _ R4 Keep.refl⟩
                rw [List.length_zip, sizeLine_eq]
                omega
              · cases hf
            · cases hf
        · cases hm
      · cases hm
    · cases hm
  · cases hm
/-- a call of a list's method at a slot: one argument, the result None -/
def appD (y : D) (d : D) : Option D := match d with
  | .own ds => if fzL ds = true ∧ ds.length < 1000000 then some (.own (ds ++ [y])) else none
  | _ => none
/-- x.append(e) -/
def appM (s : Nat) (m : EM) : EM := fun env => if isOwn env s = true then bindR (m env) fun x e => match val e x with
    | none => .bad
    | some y => match modS s (appD y) e with
      | none => .bad
      | some e' => .ok .non e'
  else .bad
where isOwn (e : Env) (i : Nat) : Bool := match e[i]? with
  | some (some (.own ds)) => true
  | _ => false
theorem isOwn_ok {e : Env} {i : Nat} (h : appM.isOwn e i = true) : ∃ ds, e[i]? = some (some (.own ds)) := by
  unfold appM.isOwn at h
  split at h
  · exact ⟨_, by assumption⟩
  · cases h
theorem me_append {pos' : Pos} (hN : X.N[s]? = some x) (hv : Vis X.env.scope x) (he : PE X e (tM (ct X xd xn) wx m)) (hd : (x == ("__debug__" : Str)) = false := by decide) (hcd : (x == ("__classdict__" : Str)) = false := by decide)
    (hbase : attributeBase (.Name x p) "append" X.env (eval (.Name x p) X.env) = eval (.Name x p) X.env := by rfl)
    (hfew : ((backTo pos (starEach [e] X.env)).all (fun x => !x.1) && (backToKw pos (keywordEach [] X.env)).all (fun x => x.1.isSome)
      && decide ([e].length + ([] : List Keyword).length + (if ([] : List Keyword).isEmpty then 0 else 1) < 30)) = true := by rfl)
    (hline : (pos'.endLine == pos.line) = true := by rfl) (hs : starEach [e] X.env = (false, eval e X.env) :: starEach [] X.env := by rfl) (hplain : (backTo pos (starEach [] X.env)).any (·.1) = false := by rfl) :
    PE X (.Call (.Attribute (.Name x p) "append" pos') [e] [] pos) (tM (ct X xd xn) wx (appM s m)) :=
  PEimp (pe_bm F.plainAttrs_list F.slot_list_append F.type_list_append mt_append (pe_var hN hv hd hcd) (pa_cons he pa_nil hs) hbase hfew hline hs hplain) fun σ H Q h => by
  obtain ⟨S, G, td, tv, tw, env, W, hC, R, q⟩ := h
  have hK : S.K = X.K := congrArg Ct.K hC
  unfold appM at q
  split at q
  · rename_i ht
    obtain ⟨ds9, h9⟩ := isOwn_ok ht
    obtain ⟨v0, w0, hs0, _, o0⟩ := R.sl.get h9
    simp only [O] at o0
    obtain ⟨a0, vs0, fq0, rfl, _, hl0, _⟩ := o0
    refine ⟨.ref a0, hs0, .inl ⟨rfl, vs0, .inl (.inl hl0)⟩, ?_⟩
    rcases bindE q with ⟨d, e1, h1, q⟩ | ⟨y, e1, h1, q⟩
    · refine tM_mk hC R (.inl ⟨d, e1, h1, fun v tw1 G1 W1 H1 R1 => ?_⟩)
      split at q
      · exact q.elim
      · rename_i y hy
        split at q
        · exact q.elim
        · rename_i e' hm
          obtain ⟨d0, d', he, hf, rfl⟩ := modS_ok hm
          obtain ⟨G3, tw3, R3, s3, fy⟩ := R1.frzTop hy
          cases d0 <;> simp only [appD, reduceCtorEq] at hf
          rename_i ds
          split at hf
          · rename_i hz
            cases hf
            obtain ⟨a, ho, hs1, ⟨vs, hP1, hP2, hP3⟩, W', R4⟩ := R3.mod (d' := .own (ds ++ [y])) (P := fun a ho => ∃ vs, H1 a = some (.lst vs) ∧ vs.length = ds.length ∧ ho = .lst (vs ++ [v])) he (fun j z => by cases z) (fun v1 w1 o0 => by
              simp only [O] at o0
              obtain ⟨a, vs, fq, rfl, rfl, q1, q2, q3⟩ := o0
              obtain ⟨rfl, fl⟩ := OL.to_FL hz.1 q3
              refine ⟨a, .lst (vs ++ [v]), rfl, List.mem_cons_self .., ⟨vs, q1, fl.length.symm, rfl⟩, ?_⟩
              simp only [O]
              exact ⟨a, _, [], rfl, rfl, upd_same, q2, OL.of_FL (fl.append (by simp only [FL]; exact ⟨v, [], rfl, fy, rfl⟩))⟩)
            rw [hs0] at hs1
            cases hs1
            subst hP3
            exact ⟨a0, vs, v, rfl, rfl, hP1, by rw [sizeLine_eq]; omega, q _ _ _ _ _ (R4.push (by simp only [F]))⟩
          · cases hf
    · exact tM_mk hC R (.inr ⟨y, e1, h1, q⟩)
  · exact q.elim
/-! ### dicts -/
/-- a dict's keys and items -/
def dictI : D → Option (List Key × List D)
  | .dct ks xs => some (ks, xs)
  | .odct ks xs => if fzL xs = true then some (ks, xs) else none
  | _ => none
theorem dictI_ok {K : PySem.W.Frag} {G H : Hp} {d : D} {v : V} {w : List Addr} {ks : List Key} {xs : List D} (e : Sub G H) (h : dictI d = some (ks, xs)) (o : O K G H d v w) : ∃ a vs, v = .ref a ∧ Rd H a (.dK (ks.zip vs)) ∧ ks.length = vs.length ∧ FL K G xs vs := by
  cases d <;> simp only [dictI, reduceCtorEq] at h
  · cases h
    simp only [O, F] at o
    obtain ⟨_, a, vs, rfl, q1, q2, q3⟩ := o
    exact ⟨a, vs, rfl, e.rdK q1, q2, q3⟩
  · split at h
    · rename_i hz
      cases h
      simp only [O] at o
      obtain ⟨a, vs, fq, rfl, _, q1, _, q2, q3⟩ := o
      exact ⟨a, vs, rfl, .inl q1, q2, (OL.to_FL hz q3).2⟩
    · cases h
/-- d[k], k there -/
def ixDk (d k : D) : Option D := (dictI d).bind fun z => (keyI k).bind fun j => getKey z.1 z.2 j
theorem me_dix (hu : X.A.units + 1 < cLine) (ho : PE X o (tM (ct X xd xn) wx ma)) (hi : PE X i (tM (ct X xd xn) wx mb)) (hs : NoSl i := by intro _ _; rfl) : PE X (.Subscript o i pos) (tM (ct X xd xn) wx (opM ixDk ma mb)) :=
  PEimp (pe_dget hu ho hi hs) fun σ H Q h => by
  have z := tM_op (r := fun v u H Q => ∃ a v1, v = .ref a ∧ DGet H a u (some v1) ∧ Q v1 H) (C := ct X xd xn) (f := ixDk) (fun S G td tv tw env σ W H x y z v u w1 w2 Q hK R o1 o2 h q => by
    obtain ⟨⟨ks, xs⟩, h1, h⟩ := Option.bind_eq_some_iff.mp h
    obtain ⟨j, h2, h⟩ := Option.bind_eq_some_iff.mp h
    obtain ⟨a, vs, rfl, q1, q2, q3⟩ := dictI_ok R.sub h1 o1
    have := keyI_ok h2 o2
    subst this
    rcases getKey_F (j := j) q2 q3 with ⟨n1, _⟩ | ⟨x1, v1, g1, g2, fv⟩
    · rw [n1] at h; cases h
    · rw [g1] at h
      cases h
      exact ⟨a, v1, rfl, .inl ⟨_, j, q1, rfl, g2.symm⟩, q _ _ _ _ (R.push (hK ▸ fv))⟩) h
  exact z
end
end Mx
set_option Elab.async false
set_option linter.all false
set_option maxRecDepth 100000
set_option maxHeartbeats 1000000
/-! Mx15: more of dicts; what else a loop walks; name = [..] -/
namespace Mx
open PySem PySem.Spec L2 PyProof.Rows
/-- d.get(k, x) -/
def get2 (d k x : D) (e : Env) : Re D := match deref e d with
  | some d' => match dictI d' with
    | some (ks, xs) => match (deref e k).bind keyI with
      | some j => match val e x with
        | some y => match getKey ks xs j with
          | some z => .ok z e
          | none => .ok y e
        | none => .bad
      | none => .bad
    | none => .bad
  | none => .bad
def dgetM (o a b : EM) : EM := fun env => bindR (o env) fun d e1 => match (deref e1 d).bind dictI with
  | some _ => bindR (a e1) fun k e2 => bindR (b e2) fun x e3 => get2 d k x e3
  | none => .bad
section
variable {X : Cx} {xd : Option Addr} {xn : Option Xn} {wx : WX} {p pos p1 p2 p3 apos : Pos} {e o i f : Expr} {ma mb m mo mx im : EM} {x : Str} {ro : List Bool} {s : Nat}
theorem getKey_none {K : PySem.W.Frag} {G : Hp} {ks : List Key} {xs : List D} {vs : List V} {j : Key} (hl : ks.length = vs.length) (fl : FL K G xs vs) (h : getKey ks xs j = none) : valV (ks.zip vs) j = none := by
  rcases getKey_F (j := j) hl fl with ⟨_, n⟩ | ⟨x, v, g, _⟩
  · exact n
  · rw [h] at g; cases g
theorem me_dget2 (hu : X.A.units + 1 < cLine) (ho : PE X o (tM (ct X xd xn) wx mo)) (he : PE X e (tM (ct X xd xn) wx ma)) (hf : PE X f (tM (ct X xd xn) wx mb)) (mm : M2 X o "get" apos e f pos := by exact ⟨rfl, rfl, rfl, rfl⟩) : PE X (.Call (.Attribute o "get" apos) [e, f] [] pos) (tM (ct X xd xn) wx (dgetM mo ma mb)) :=
  PEimp (pe_dget2 hu ho he hf mm) fun σ H Q h => by
  obtain ⟨S, G, td, tv, tw, env, W, hC, R, q⟩ := h
  have hK : S.K = X.K := congrArg Ct.K hC
  rcases bindE q with ⟨d, e1, h1, q⟩ | ⟨y, e1, h1, q⟩
  · refine tM_mk hC R (.inl ⟨d, e1, h1, fun v tw1 G1 W1 H1 R1 => ?_⟩)
    split at q
    · rename_i z hz
      obtain ⟨d', hd', hz⟩ := Option.bind_eq_some_iff.mp hz
      obtain ⟨w1, o1⟩ := R1.look hd'
      obtain ⟨a, vs, rfl, r1, _⟩ := dictI_ok R1.sub (show dictI d' = some (z.1, z.2) from hz) o1
      refine ⟨a, rfl, .inl ⟨_, r1⟩, ?_⟩
      rcases bindE q with ⟨k, e2, h2, q⟩ | ⟨y, e2, h2, q⟩
      · refine tM_mk hC R1 (.inl ⟨k, e2, h2, fun ky tw2 G2 W2 H2 R2 => ?_⟩)
        rcases bindE q with ⟨x, e3, h3, q⟩ | ⟨y, e3, h3, q⟩
        · refine tM_mk hC R2 (.inl ⟨x, e3, h3, fun xv tw3 G3 W3 H3 R3 => ?_⟩)
          unfold get2 at q
          split at q
          · rename_i d2 hd2
            split at q
            · rename_i ks xs hdi
              split at q
              · rename_i j hj
                split at q
                · rename_i y hy
                  obtain ⟨k', hk', hj⟩ := Option.bind_eq_some_iff.mp hj
                  obtain ⟨G4, tw4, R4, s4, fy⟩ := R3.frzTop hy
                  obtain ⟨w4, ok⟩ := R4.look hk'
                  have := keyI_ok hj ok
                  subst this
                  obtain ⟨_, tw5, _, R5⟩ := R4.pop
                  obtain ⟨w5, od⟩ := R5.look hd2
                  obtain ⟨a', vs', e5, r5, l5, f5⟩ := dictI_ok R5.sub hdi od
                  cases e5
                  obtain ⟨_, tw6, _, R6⟩ := R5.pop
                  split at q
                  · rename_i z hg
                    rcases getKey_F (j := j) l5 f5 with ⟨n, _⟩ | ⟨x1, v1, g1, g2, fv⟩
                    · rw [hg] at n; cases n
                    · rw [hg] at g1
                      cases g1
                      exact ⟨some v1, .inl ⟨_, j, r5, rfl, g2.symm⟩, q _ _ _ _ _ (R6.push fv)⟩
                  · rename_i hg
                    exact ⟨none, .inl ⟨_, j, r5, rfl, (getKey_none l5 f5 hg).symm⟩, q _ _ _ _ _ (R6.push fy)⟩
                · exact q.elim
              · exact q.elim
            · exact q.elim
          · exact q.elim
        · exact tM_mk hC R2 (.inr ⟨y, e3, h3, q.pop.pop⟩)
      · exact tM_mk hC R1 (.inr ⟨y, e2, h2, q.pop⟩)
    · exact q.elim
  · exact tM_mk hC R (.inr ⟨y, e1, h1, q⟩)
/-- {} -/
theorem me_dnew : PE X (.Dict [] [] pos) (tM (ct X xd xn) wx (cstM (.odct [] []))) := PEimp pe_dnewK fun σ H Q h => by
  obtain ⟨S, G, td, tv, tw, env, W, hC, R, q⟩ := h
  exact fun p hp => q _ _ _ _ _ (R.newO hp (by
    simp only [O]
    exact ⟨p, [], [], rfl, rfl, upd_same, R.sub.none hp, rfl, by simp [OL]⟩))
/-- dict(d) -/
def dictD (d : D) : Option D := (dictI d).map fun z => .odct z.1 z.2
theorem b_dict : B1 X (.type "dict") dictD := fun S G td tv tw env σ W H x z v w1 Q hK R o h q => by
  obtain ⟨⟨ks, xs⟩, h1, rfl⟩ := Option.map_eq_some_iff.mp h
  obtain ⟨a, vs, rfl, q1, q2, q3⟩ := dictI_ok R.sub h1 o
  refine ⟨_, call_dictD, a, _, rfl, q1, fun p hp => q _ _ _ _ (R.newO hp ?_)⟩
  simp only [O]
  exact ⟨p, vs, [], rfl, rfl, upd_same, R.sub.none hp, q2, OL.of_FL (hK ▸ q3)⟩
/-! ### sorted -/
def insS (x : Str) : List Str → List Str
  | [] => [x]
  | y :: ys => if ltCps y.cps.toList x.cps.toList = true then y :: insS x ys else x :: y :: ys
def srtS : List Str → List Str
  | [] => []
  | x :: xs => insS x (srtS xs)
def keyS : List Key → Option (List Str)
  | [] => some []
  | .inr x :: ks => (keyS ks).map (x :: ·)
  | _ => none
theorem keyS_ok : ∀ {ks : List Key} {xs : List Str}, keyS ks = some xs → ks = xs.map Sum.inr
  | [], xs, h => by
    simp only [keyS, Option.some.injEq] at h
    subst h
    rfl
  | k :: ks, xs, h => by
    cases k <;> simp only [keyS, reduceCtorEq] at h
    obtain ⟨ys, h1, rfl⟩ := Option.map_eq_some_iff.mp h
    rw [keyS_ok h1]
    rfl
theorem insS_perm (x : Str) : ∀ l : List Str, (insS x l).Perm (x :: l)
  | [] => .refl _
  | y :: ys => by
    unfold insS
    split
    · exact ((insS_perm x ys).cons y).trans (.swap x y ys)
    · exact .refl _
theorem srtS_perm : ∀ l : List Str, (srtS l).Perm l
  | [] => .refl _
  | x :: xs => by
    unfold srtS
    exact (insS_perm x _).trans ((srtS_perm xs).cons x)
theorem lt_irr (a : List Nat) : ltCps a a = false := by rw [ltCps_eq]; simp
theorem le_tr {a b c : List Nat} (h : ltCps b a = false) (k : ltCps c b = false) : ltCps c a = false := by
  rw [ltCps_eq, decide_eq_false_iff_not] at h k ⊢
  exact List.not_lt.mpr (List.le_trans (List.not_lt.mp h) (List.not_lt.mp k))
theorem le_anti {a b : List Nat} (h : ltCps b a = false) (k : ltCps a b = false) : a = b := by
  rw [ltCps_eq, decide_eq_false_iff_not] at h k
  exact List.le_antisymm (List.not_lt.mp h) (List.not_lt.mp k)
/-- ascending -/
def Asc (l : List Str) : Prop := l.Pairwise fun a b => ltCps b.cps.toList a.cps.toList = false
theorem asc_of : ∀ {l : List Str}, sortedS l = true → Asc l := by
  have go : ∀ (l : List Str) (p : Str), risingS p l = true → Asc (p :: l) := by
    intro l
    induction l with
    | nil => intro p _; exact List.pairwise_singleton _ _
    | cons x r ih =>
      intro p h
      simp only [risingS, Bool.and_eq_true, Bool.not_eq_true'] at h
      have h2 := ih x h.2
      refine List.pairwise_cons.mpr ⟨fun y hy => ?_, h2⟩
      rcases List.mem_cons.mp hy with z | z
      · subst z; exact h.1
      · exact le_tr h.1 ((List.pairwise_cons.mp h2).1 y z)
  intro l h
  cases l with
  | nil => exact List.Pairwise.nil
  | cons x r => exact go r x h
theorem insS_asc (x : Str) : ∀ {l : List Str}, Asc l → Asc (insS x l)
  | [], _ => List.pairwise_singleton _ _
  | y :: ys, h => by
    unfold insS
    split
    · rename_i hlt
      refine List.pairwise_cons.mpr ⟨fun z hz => ?_, insS_asc x (List.pairwise_cons.mp h).2⟩
      rcases List.mem_cons.mp ((insS_perm x ys).mem_iff.mp hz) with e | e
      · subst e
        rw [ltCps_eq, decide_eq_true_eq] at hlt
        rw [ltCps_eq, decide_eq_false_iff_not]
        exact fun w => List.lt_irrefl _ (List.lt_trans hlt w)
      · exact (List.pairwise_cons.mp h).1 z e
    · rename_i hlt
      have hlt : ltCps y.cps.toList x.cps.toList = false := by simpa using hlt
      refine List.pairwise_cons.mpr ⟨fun z hz => ?_, h⟩
      rcases List.mem_cons.mp hz with e | e
      · subst e; exact hlt
      · exact le_tr hlt ((List.pairwise_cons.mp h).1 z e)
theorem srtS_asc : ∀ l : List Str, Asc (srtS l)
  | [] => List.Pairwise.nil
  | x :: xs => insS_asc x (srtS_asc xs)
theorem str_eta {x y : Str} (h : x.cps.toList = y.cps.toList) : x = y := by
  cases x; cases y
  simp at h
  rw [h]
theorem asc_uniq : ∀ {l m : List Str}, Asc l → Asc m → l.Perm m → l = m
  | [], m, _, _, p => (List.nil_perm.mp p).symm
  | x :: xs, [], _, _, p => absurd p.symm (by simp)
  | x :: xs, y :: ys, h, k, p => by
    have e : x = y := by
      have hx : x ∈ y :: ys := p.mem_iff.mp (List.mem_cons_self ..)
      have hy : y ∈ x :: xs := p.mem_iff.mpr (List.mem_cons_self ..)
      rcases List.mem_cons.mp hx with z | z
      · exact z
      · rcases List.mem_cons.mp hy with w | w
        · exact w.symm
        · exact str_eta (le_anti ((List.pairwise_cons.mp h).1 y w) ((List.pairwise_cons.mp k).1 x z))
    subst e
    rw [asc_uniq (List.pairwise_cons.mp h).2 (List.pairwise_cons.mp k).2 ((List.perm_cons x).mp p)]
/-- sorted(d), d a dict with few keys, all texts -/
def sortedD (d : D) : Option D := (dictI d).bind fun z => (keyS z.1).bind fun xs => if xs.length < 64 then some (.own ((srtS xs).map .str)) else none
theorem b_sorted (hc : X.calm = true) : B1 X (.builtin "sorted") sortedD := fun S G td tv tw env σ W H x z v w1 Q hK R o h q => by
  obtain ⟨⟨ks, xs⟩, h1, h⟩ := Option.bind_eq_some_iff.mp h
  obtain ⟨ss, h2, h⟩ := Option.bind_eq_some_iff.mp h
  split at h
  · rename_i h64
    cases h
    obtain ⟨a, vs, rfl, q1, q2, q3⟩ := dictI_ok R.sub h1 o
    have hk := keyS_ok h2
    refine ⟨_, call_sortedD hc, a, _, ss, rfl, q1, ?_, h64, fun ys p hp hs hn => ?_⟩
    · rw [List.map_fst_zip (by omega)]
      exact hk
    · have e : ys = srtS ss := asc_uniq (asc_of hs) (srtS_asc ss) (hp.trans (srtS_perm ss).symm)
      subst e
      exact q _ _ _ _ (R.newLst hn (FL.strs _))
  · cases h
/-! ### what else a loop walks -/
theorem pe_lock {te : TE} (he : PE X e te) : PE X e (fun σ H Q => te σ H fun v H1 => Q v H1 ∨ ∃ d kvs, v = .ref d ∧ H1 d = some (.dK kvs) ∧ ∀ od, Q v (upd H1 d (.frz od (.dK kvs)))) := ⟨fun pins s σ H Q I h => by
  refine thn (he.run pins s σ H _ I h) fun u s1 ⟨v, H1, I1, r1, q⟩ => ?_
  rcases q with q | ⟨d, kvs, rfl, hd, q⟩
  · exact ⟨v, H1, I1, r1, q⟩
  · obtain ⟨od, I2⟩ := I1.lock hd trivial
    exact ⟨_, _, I2, r1, q od⟩⟩
theorem lock_sub {G : Hp} {p : Addr} {kvs : List (Key × V)} {od : Obj} (g : G p = some (.dK kvs)) : Sub G (upd G p (.frz od (.dK kvs))) := fun a o e => by
  by_cases z : a = p
  · subst z; rw [g] at e; cases e; exact .inr ⟨kvs, od, rfl, upd_same⟩
  · exact .inl (by rw [upd_ne z]; exact e)
/-- H has the dict locked already -/
theorem RR.lockG {S : Sc} {G H : Hp} {td : List D} {tv : List V} {tw : List (List Addr)} {env : Env} {σ : L2.St} {W : List (List Addr)} {p : Addr} {kvs : List (Key × V)} {od : Obj} (R : RR S G td tv tw env σ W H) (g : G p = some (.dK kvs)) (h : H p = some (.frz od (.dK kvs))) : RR S (upd G p (.frz od (.dK kvs))) td tv tw env σ W H := by
  refine R.step (lock_sub g) (fun a o e => ?_) (fun a ha => ⟨?_, rfl⟩) (fun a o e => .inl e) (fun a e => e) fun a e => ?_
  · by_cases z : a = p
    · subst z; rw [upd_same] at e; cases e; exact .inl h
    · rw [upd_ne z] at e; exact R.sub a o e
  · have : a ≠ p := fun z => by rw [z] at ha; rw [(R.fp p ha).1] at g; cases g
    rw [upd_ne this]; exact (R.fp a ha).1
  · by_cases z : a = p
    · subst z; exact .inl (by rw [g]; exact fun z => nomatch z)
    · rw [upd_ne z] at e; exact .inl e
def items1 (x : D) (e : Env) : Re (List D) := match val e x with
  | some (.dct ks xs) => .ok (itemsD ks xs) e
  | _ => .bad
def itemsI (m : EM) : IM := fun env => bindR (m env) items1
theorem mi_items {elts : List Expr} {kk : Nat} {tpos cpos : Pos} (he : PE X e (tM (ct X xd xn) wx m)) (hbase : attributeBase e "items" X.env (eval e X.env) = eval e X.env := by rfl) (hline : (apos.endLine == cpos.line) = true := by rfl) :
    PI X (.Tuple elts kk tpos) (.Call (.Attribute e "items" apos) [] [] cpos) (tMI (ct X xd xn) wx (itemsI m)) := PIimp (pi_items (pe_lock he) hbase hline) fun σ H R h => by
  obtain ⟨S, G, td, tv, tw, env, W, hC, q, h⟩ := h
  have hK : S.K = X.K := congrArg Ct.K hC
  rcases bindI h with ⟨d, e1, h1, h⟩ | ⟨x, e1, h1, h⟩
  · refine tM_mk hC q (.inl ⟨d, e1, h1, fun v tw1 G1 W1 H1 R1 => ?_⟩)
    unfold items1 at h
    split at h
    · rename_i ks xs hv
      obtain ⟨G2, tw2, R2, s2, f⟩ := R1.frzTop hv
      simp only [F] at f
      obtain ⟨a, vs, rfl, r, hl, fl⟩ := f
      rcases r with r | ⟨od, r⟩
      · rcases R2.sub _ _ r with z | ⟨kvs, od, z, z2⟩
        · refine .inr ⟨a, _, rfl, z, fun od => ?_⟩
          have R3 := R2.lock (od := od) r z
          exact ⟨a, od, _, rfl, upd_same, h _ _ _ _ _ (Wk.items hl upd_same (FL.mono (lock_sub r) _ _ fl)) R3⟩
        · cases z
          exact .inl ⟨a, od, _, rfl, z2, h _ _ _ _ _ (Wk.items hl upd_same (FL.mono (lock_sub r) _ _ fl)) (R2.lockG r z2)⟩
      · exact .inl ⟨a, od, _, rfl, R2.sub.get r, h _ _ _ _ _ (Wk.items hl r fl) R2⟩
    · exact h.elim
  · exact tM_mk hC q (.inr ⟨x, e1, h1, h⟩)
/-- enumerate(a list) -/
def enum1 (x : D) (e : Env) : Re (List D) := match val e x with
  | some (.lst ds) => .ok (enumD 0 ds) e
  | some (.scr ds) => .ok (enumD 0 ds) e
  | _ => .bad
def enumI (m : EM) : IM := fun env => bindR (m env) enum1
theorem mi_enum {elts : List Expr} {kk : Nat} {tpos : Pos} (hg : Gl X "enumerate") (hm : X.mg "enumerate" = none) (he : PE X e (tM (ct X xd xn) wx m)) (hs : starEach [e] X.env = [(false, eval e X.env)] := by rfl) (hs2 : starEach [e] X.env = (false, eval e X.env) :: starEach [] X.env := by rfl) :
    PI X (.Tuple elts kk tpos) (.Call (.Name "enumerate" p) [e] [] pos) (tMI (ct X xd xn) wx (enumI m)) := PIimp (pi_enum hg hm (pa_cons he pa_nil hs2) hs) fun σ H R h => by
  obtain ⟨S, G, td, tv, tw, env, W, hC, q, h⟩ := h
  have hK : S.K = X.K := congrArg Ct.K hC
  rcases bindI h with ⟨d, e1, h1, h⟩ | ⟨x, e1, h1, h⟩
  · refine tM_mk hC q (.inl ⟨d, e1, h1, fun v tw1 G1 W1 H1 R1 => ?_⟩)
    unfold enum1 at h
    split at h
    · rename_i ds hv
      obtain ⟨G2, tw2, R2, s2, f⟩ := R1.frzTop hv
      simp only [F] at f
      obtain ⟨a, vs, rfl, r, fl⟩ := f
      have sq : SqL S.K G2 a vs := .inl (.inl r)
      exact ⟨a, vs, rfl, hK ▸ R2.sub.sl sq, h _ _ _ _ _ (hK ▸ Wk.enum sq fl) R2⟩
    · rename_i ds hv
      obtain ⟨G2, tw2, R2, s2, f⟩ := R1.frzTop hv
      simp only [F] at f
      obtain ⟨a, vs, rfl, sq, fl⟩ := f
      exact ⟨a, vs, rfl, hK ▸ R2.sub.sl sq, h _ _ _ _ _ (hK ▸ Wk.enum sq fl) R2⟩
    · exact h.elim
  · exact tM_mk hC q (.inr ⟨x, e1, h1, h⟩)
/-- zip of two lists, or of two tuples -/
def isTp : D → Bool
  | .tup _ => true
  | .ptp _ => true
  | _ => false
def zip1 (x y : D) (e : Env) : Re (List D) := match val e x, val e y with
  | some x', some y' => match seqD x', seqD y' with
    | some xs, some ys => if isTp x' = isTp y' then .ok (zipD xs ys) e else .bad
    | _, _ => .bad
  | _, _ => .bad
def zipI (a b : EM) : IM := fun env => bindR (a env) fun x e1 => bindR (b e1) fun y e2 => zip1 x y e2
theorem seqD_F2 {K : PySem.W.Frag} {G : Hp} {d : D} {v : V} {ds : List D} (h : seqD d = some ds) (f : F K G d v) : ∃ a vs, v = .ref a ∧ FL K G ds vs ∧ ((isTp d = false ∧ SqL K G a vs) ∨ (isTp d = true ∧ SqT K G a vs)) := by
  cases d <;> simp only [seqD, Option.some.injEq, reduceCtorEq] at h <;> subst h <;> simp only [F] at f
  · obtain ⟨a, vs, rfl, q, f⟩ := f
    exact ⟨a, vs, rfl, f, .inr ⟨rfl, q⟩⟩
  · obtain ⟨a, o, vs, rfl, q, _, f⟩ := f
    exact ⟨a, vs, rfl, f, .inr ⟨rfl, .inl (.inr ⟨o, q⟩)⟩⟩
  · obtain ⟨a, vs, rfl, q, f⟩ := f
    exact ⟨a, vs, rfl, f, .inl ⟨rfl, .inl (.inl q)⟩⟩
  · obtain ⟨a, vs, rfl, q, f⟩ := f
    exact ⟨a, vs, rfl, f, .inl ⟨rfl, q⟩⟩
theorem zip_imp {e2 : Expr} : ∀ σ H R, tMI (ct X xd xn) wx (zipI ma mb) σ H R → RZ.iZipA X.K (tCons (tM (ct X xd xn) wx ma) (tCons (tM (ct X xd xn) wx mb) tNil)) σ H R := fun σ H R h => by
  obtain ⟨S, G, td, tv, tw, env, W, hC, q, h⟩ := h
  have hK : S.K = X.K := congrArg Ct.K hC
  rcases bindI h with ⟨d, e1, h1, h⟩ | ⟨x, e1, h1, h⟩
  · refine tM_mk hC q (.inl ⟨d, e1, h1, fun v tw1 G1 W1 H1 R1 => ?_⟩)
    rcases bindI h with ⟨d2, e2, h2, h⟩ | ⟨x, e2, h2, h⟩
    · refine tM_mk hC R1 (.inl ⟨d2, e2, h2, fun v2 tw2 G2 W2 H2 R2 => ?_⟩)
      unfold zip1 at h
      split at h
      · rename_i x' y' hx hy
        split at h
        · rename_i xs ys sx sy
          split at h
          · rename_i ht
            obtain ⟨G3, tw3, R3, s3, f3⟩ := R2.frzTop hy
            obtain ⟨G4, tw4, R4, s4, f4⟩ := R3.frzTop hx
            obtain ⟨b, us, rfl, flb, qb⟩ := seqD_F2 sy (F.mono s4 _ _ f3)
            obtain ⟨a, vs, rfl, fla, qa⟩ := seqD_F2 sx f4
            refine ⟨a, b, vs, us, rfl, ?_⟩
            rcases qa with ⟨t1, qa⟩ | ⟨t1, qa⟩ <;> rcases qb with ⟨t2, qb⟩ | ⟨t2, qb⟩
            · exact .inl ⟨hK ▸ R4.sub.sl qa, hK ▸ R4.sub.sl qb, h _ _ _ _ _ (hK ▸ Wk.zip qa qb fla flb) R4⟩
            · rw [t1, t2] at ht; cases ht
            · rw [t1, t2] at ht; cases ht
            · exact .inr ⟨hK ▸ R4.sub.st qa, hK ▸ R4.sub.st qb, h _ _ _ _ _ (hK ▸ Wk.zipT qa qb fla flb) R4⟩
          · exact h.elim
        · exact h.elim
      · exact h.elim
    · exact tM_mk hC R1 (.inr ⟨x, e2, h2, PostX.pop h⟩)
  · exact tM_mk hC q (.inr ⟨x, e1, h1, h⟩)
theorem mi_zipS {elts : List Expr} {kk : Nat} {tpos kp vp : Pos} {e2 : Expr} {j : Nat} (hg : Gl X "zip") (hm : X.mg "zip" = none) (he : PE X e (tM (ct X xd xn) wx ma)) (he2 : PE X e2 (tM (ct X xd xn) wx mb))
    (hs2 : starEach [e2] X.env = (false, eval e2 X.env) :: starEach [] X.env := by rfl) (hst : starEach [e, e2] X.env = (false, eval e X.env) :: starEach [e2] X.env := by rfl) (hs : backTo pos (starEach [e, e2] X.env) = (false, eval e X.env) :: backTo pos (starEach [e2] X.env) := by rfl) (hpl : (backTo pos (starEach [e, e2] X.env)).any (·.1) = false := by rfl) :
    PI X (.Tuple elts kk tpos) (.Call (.Name "zip" p) [e, e2] [⟨some "strict", .Constant (.bool false) j vp, kp⟩] pos) (tMI (ct X xd xn) wx (zipI ma mb)) :=
  PIimp (pi_zipS hg hm (pa_cons he (pa_cons he2 pa_nil hs2) hst) hs hpl) (zip_imp (e2 := e2))
theorem mi_zip {elts : List Expr} {kk : Nat} {tpos : Pos} {e2 : Expr} (hg : Gl X "zip") (hm : X.mg "zip" = none) (he : PE X e (tM (ct X xd xn) wx ma)) (he2 : PE X e2 (tM (ct X xd xn) wx mb))
    (hs2 : starEach [e2] X.env = (false, eval e2 X.env) :: starEach [] X.env := by rfl) (hst : starEach [e, e2] X.env = (false, eval e X.env) :: starEach [e2] X.env := by rfl) (hpl : (backTo pos (starEach [e2] X.env)).any (·.1) = false := by rfl) :
    PI X (.Tuple elts kk tpos) (.Call (.Name "zip" p) [e, e2] [] pos) (tMI (ct X xd xn) wx (zipI ma mb)) :=
  PIimp (RZ.pi_zipA hg hm (pa_cons he (pa_cons he2 pa_nil hs2) hst) hst hpl) (zip_imp (e2 := e2))
end
end Mx
set_option Elab.async false
set_option linter.all false
set_option maxRecDepth 100000
set_option maxHeartbeats 1000000
/-! Mx16: name = [..]; dict comprehensions; repr; f(*values) -/
namespace Mx
open PySem PySem.Spec L2 PyProof.Rows
/-! ### name = [..] -/
section
variable {X : Cx} {elt tg iter c kx vx : Expr} {im : IM} {g : GM} {t : BM} {m mk mv : EM} {n : Nat} {scope : Scope} {own : List (Str × Nat)} {pos spos py : Pos} {xd : Option Addr} {xn : Option Xn} {wx : WX} {i : Nat} {y : Str} {ro : List Bool}
theorem set_imp {te : TE} {m : EM} (hr : (ro[i]?).getD false = false) (hi : ∀ σ H Q, tM (ct X xd xn) wx m σ H Q → te σ H Q) : ∀ D' σ H, tMS (ct X xd xn) wx ro (setS i m) D' σ H → tAsg te (gName i) D' σ H := fun D' σ H h => by
  obtain ⟨S, G, td, tv, tw, env, W, hC, nr, R, q⟩ := h
  refine hi _ _ _ ?_
  rcases bindP q with ⟨x, e1, m1, q⟩ | ⟨x, e1, m1, q⟩
  · obtain ⟨d, hp, hl, q⟩ := set1_ok q
    refine tM_mk hC R (.inl ⟨x, e1, m1, fun v tw1 G1 W1 H1 R1 => ?_⟩)
    obtain ⟨tw2, R2, nd⟩ := R1.putV hp
    obtain ⟨tw3, W3, R3⟩ := R2.store hl nd (nr i)
    exact q _ _ _ _ _ R3 (Keep.set hr)
  · exact tM_mk hC R (.inr ⟨x, e1, m1, q⟩)
theorem ms_setLc (hc : X.calm = true) (hN : X.N.Nodup) (hy : X.N[i]? = some y) (hyl : X.env.scope.names.lookup y = some .local)
    (hsw : swapsWith (.ListComp elt [⟨tg, iter, [], 0⟩] scope pos) (some (.Name y py)) spos.line X.env = pure true) (hi : PI X tg iter (tMI (ct X xd xn) wx im)) (ok : BlkOk X.N X.env.scope scope own) (hgl : GL g)
    (hg : BlkAll X scope fun Y => PG Y tg (tMG (ct Y xd xn) (roC n (own.map (·.2))) g)) (he : BlkAll X scope fun Y => PE Y elt (tM (ct Y xd xn) wxF m)) (hr : (ro[i]?).getD false = false := by rfl) (hs : ∀ x, foldedSetIterable iter X.env x = pure x := by intro _; rfl) :
    PS X (.Assign [.Name y py] (.ListComp elt [⟨tg, iter, [], 0⟩] scope pos) spos) (tMS (ct X xd xn) wx ro (setS i (lcM n (own.map (·.2)) im g yesB m))) :=
  PSimp (ps_setLc hc hN hy hyl hsw hi ok hg (fun s H C cl fp => pts_nil) he hs) (set_imp hr (lc_imp (fun _ _ _ _ h => h) (fun σ H Q h => by
    obtain ⟨S, G, td, tv, tw, env, W, hC, R, q⟩ := h
    exact q _ _ _ _ R) (fun _ _ _ h => h) hgl))
theorem ms_setLcIf (hc : X.calm = true) (hN : X.N.Nodup) (hy : X.N[i]? = some y) (hyl : X.env.scope.names.lookup y = some .local)
    (hsw : swapsWith (.ListComp elt [⟨tg, iter, [c], 0⟩] scope pos) (some (.Name y py)) spos.line X.env = pure true) (hi : PI X tg iter (tMI (ct X xd xn) wx im)) (ok : BlkOk X.N X.env.scope scope own) (hgl : GL g)
    (hg : BlkAll X scope fun Y => PG Y tg (tMG (ct Y xd xn) (roC n (own.map (·.2))) g)) (ht : BlkAll X scope fun Y => PT Y c (tMB (ct Y xd xn) wxF t)) (he : BlkAll X scope fun Y => PE Y elt (tM (ct Y xd xn) wxF m)) (hr : (ro[i]?).getD false = false := by rfl) (hs : ∀ x, foldedSetIterable iter X.env x = pure x := by intro _; rfl) :
    PS X (.Assign [.Name y py] (.ListComp elt [⟨tg, iter, [c], 0⟩] scope pos) spos) (tMS (ct X xd xn) wx ro (setS i (lcM n (own.map (·.2)) im g t m))) :=
  PSimp (ps_setLc hc hN hy hyl hsw hi ok hg (fun s H C cl fp => pts_one (ht s H C cl fp)) he hs) (set_imp hr (lc_imp (fun _ _ _ _ h => h) (fun _ _ _ h => h) (fun _ _ _ h => h) hgl))
end
/-! ### {k: v for target in iter if ..} -/
def dcL (vs : List Nat) (g : GM) (t : BM) (mk mv : EM) : List D → Env → List Key → List D → Re D
  | [], e, ks, xs => .ok (.odct ks xs) (killE e vs)
  | d :: ds, e, ks, xs => match g d e with
    | none => .bad
    | some e2 => match t e2 with
      | .ok false e3 => dcL vs g t mk mv ds (killE e3 vs) ks xs
      | .ok true e3 => match mk e3 with
        | .ok k e4 => match (val e4 k).bind keyI with
          | some j => match mv e4 with
            | .ok x e5 => match val e5 x with
              | some y => if ndK ks = true ∧ ks.length < 1000000 then match putKey ks xs j y with
                  | some (ls, zs) => dcL vs g t mk mv ds (killE e5 vs) ls zs
                  | none => .bad
                else .bad
              | none => .bad
            | _ => .bad
          | none => .bad
        | _ => .bad
      | _ => .bad
def dcM (n : Nat) (vs : List Nat) (im : IM) (g : GM) (t : BM) (mk mv : EM) : EM := fun env => bindR (im env) fun ds e => if e.length = n then dcL vs g t mk mv ds (killE e vs) [] [] else .bad
section
variable {S : Sc} {G H : Hp} {td : List D} {tv : List V} {tw : List (List Addr)} {env : Env} {σ : L2.St} {W : List (List Addr)}
theorem RR.put {ks ls : List Key} {xs zs : List D} {p : Addr} {j : Key} {y : D} {v : V} (R : RR S G (.odct ks xs :: td) (.ref p :: tv) tw env σ W H) (hf : fzL xs = true) (nd : ndK ks = true) (f : F S.K G y v) (h : putKey ks xs j y = some (ls, zs)) :
    ∃ vs, H p = some (.dK (ks.zip vs)) ∧ vs.length = ks.length ∧ ∃ tw', RR S G (.odct ls zs :: td) (.ref p :: tv) tw' env σ W (upd H p (.dK (putK (ks.zip vs) j v))) ∧ fzL zs = true := by
  obtain ⟨w, tw', rfl, _⟩ := R.pop
  have ht := R.tl
  simp only [Tl] at ht
  obtain ⟨v0, us, w0, xs', e1, e2, h1, h2⟩ := ht
  cases e1
  cases e2
  simp only [Tm, O] at h1
  obtain ⟨a, vs, fq, e3, e4, hp, gp, hl, ol⟩ := h1
  cases e3
  obtain ⟨rfl, fl⟩ := OL.to_FL hf ol
  subst e4
  obtain ⟨us', u1, u2, u3⟩ := putKey_F f h nd hl fl
  refine ⟨vs, hp, hl.symm, [p] :: tw', R.change (List.mem_singleton.mpr rfl) ?_, ?_⟩
  · simp only [O]
    exact ⟨p, us', [], rfl, rfl, by rw [upd_same, u1], gp, u2, OL.of_FL u3⟩
  · have : ∀ {ds : List D} {ws : List V}, FL S.K G ds ws → fzL ds = true := by
      intro ds
      induction ds with
      | nil => intro ws _; rfl
      | cons d ds ih =>
        intro ws h
        simp only [FL] at h
        obtain ⟨v, ws, rfl, f1, f2⟩ := h
        have := ih f2
        simp only [fzL, List.all_cons, Bool.and_eq_true] at this ⊢
        exact ⟨f1.fz, this⟩
    exact this u3
theorem RR.newD (R : RR S G td tv tw env σ W H) {p : Addr} (h : H p = none) : RR S G (.odct [] [] :: td) (.ref p :: tv) ([p] :: tw) env σ W (upd H p (.dK [])) := R.newO h (by
  simp only [O]
  exact ⟨p, [], [], rfl, rfl, upd_same, R.sub.none h, rfl, by simp [OL]⟩)
end
section
variable {X : Cx} {xd : Option Addr} {xn : Option Xn} {wx : WX} {im : IM} {g : GM} {t : BM} {mk mv : EM} {vs : List Nat} {gt : TG} {tt : TT} {tk tv0 : TE}
theorem dc_imp {n : Nat} (hg : ∀ v σ H Q, tMG (ct X xd xn) (roC n vs) g v σ H Q → gt v σ H Q) (ht : ∀ σ H Q, tMB (ct X xd xn) wxF t σ H Q → tt σ H Q) (hk : ∀ σ H Q, tM (ct X xd xn) wxF mk σ H Q → tk σ H Q) (he : ∀ σ H Q, tM (ct X xd xn) wxF mv σ H Q → tv0 σ H Q)
    (hlen : GL g) : ∀ σ H Q, tM (ct X xd xn) wx (dcM n vs im g t mk mv) σ H Q → tDc (tMI (ct X xd xn) wx im) gt tt tk tv0 vs σ H Q := fun σ H Q h => by
  obtain ⟨S, G, td, tv, tw, env, W, hC, R, q⟩ := h
  show tMI _ _ _ _ _ _
  rcases bindE q with ⟨ds, e1, h1, q⟩ | ⟨x, e1, h1, q⟩
  · refine ⟨S, G, td, tv, tw, env, W, hC, R, ?_⟩
    rw [h1]
    intro J tw1 G1 W1 H1 wk R1 D0 hD
    have hn0 : e1.length = n ∧ PostE S td tv σ Q wx (dcL vs g t mk mv ds (killE e1 vs) [] []) := by
      split at q
      · exact ⟨by assumption, q⟩
      · exact q.elim
    obtain ⟨hn, q⟩ := hn0
    have hsn : σ.length = n := by rw [← R1.sl.len.1]; exact hn
    have Ra := R1.aside
    generalize hS1 : S.here H1 G1 W1.flatten = S1 at Ra
    have hC1 : S1.C = ct X xd xn := by rw [← hS1]; exact hC
    have hB1 : S1.B = G1 := by rw [← hS1]; rfl
    have hK1 : S1.K = S.K := by unfold Sc.K; rw [hC1, hC]
    obtain ⟨W2, Rw⟩ := Ra.wipe (fun _ z => nomatch z) vs
    have Rn := Rw.newD hD
    have nrA : ∀ (ks : List Key) (xs : List D), NR [D.odct ks xs] := fun ks xs i hi => by
      have := List.mem_singleton.mp hi
      cases this
    refine ⟨fun i n H' => n = ds.length - i ∧ i ≤ ds.length ∧ ∃ (G' : Hp) (tw' : List (List Addr)) (e' : Env) (W' : List (List Addr)) (ks : List Key) (xs : List D), RR S1 G' [.odct ks xs] [.ref D0] tw' e' (L2.wipe σ vs) W' H' ∧ fzL xs = true ∧ PostE S td tv σ Q wx (dcL vs g t mk mv (ds.drop i) e' ks xs),
      ⟨ds.length, by simp, by omega, G1, _, _, W2, [], [], Rn, rfl, by simpa using q⟩, ?_⟩
    rintro i n H' ⟨rfl, hle, G', tw', e', W', ks, xs, R', fz, q⟩
    have wi := wk.2 i S1 G' _ _ tw' e' _ W' H' hK1 (hB1 ▸ R'.base) R'
    by_cases hlt : i < ds.length
    · have hd : ds[i]? = some ds[i] := List.getElem?_eq_getElem hlt
      obtain ⟨go, yl⟩ := wi.1 _ hd
      rw [List.drop_eq_getElem_cons hlt] at q
      generalize ds[i] = d at hd yl q
      have nd : ∀ j, d ≠ .rf j := fun j z => wk.1 j (z ▸ List.mem_of_getElem? hd)
      unfold dcL at q
      split at q
      · exact q.elim
      · rename_i e2 hg2
        refine .inr ⟨go, fun H7 => ∃ (G7 : Hp) (tw7 : List (List Addr)) (e7 : Env) (W7 : List (List Addr)) (ks7 : List Key) (xs7 : List D), RR S1 G7 [.odct ks7 xs7] [.ref D0] tw7 e7 (L2.wipe σ vs) W7 H7 ∧ fzL xs7 = true ∧ PostE S td tv σ Q wx (dcL vs g t mk mv (ds.drop (i + 1)) e7 ks7 xs7),
          fun H7 n7 => ⟨ds.length - (i + 1), by omega, rfl, by omega, n7⟩, fun x H2 y => ?_⟩
        obtain ⟨G2, tw2, s2, R2⟩ := yl x H2 y
        refine hg _ _ _ _ ⟨S1, G2, d, [.odct ks xs], [.ref D0], tw2, e', W', e2, hC1, nrA ks xs, nd, R2, hg2, fun tw3 G3 σ3 W3 H3 R3 kp3 => ?_⟩
        have hl3 : σ3.length = (L2.wipe σ vs).length := by rw [← R3.sl.len.1, hlen _ _ _ hg2, R'.sl.len.1]
        have hw3 : L2.wipe σ3 vs = L2.wipe (L2.wipe σ vs) vs := keep_wipe kp3 hl3 fun j hj hn => roC_get (by rw [wipe_length] at hj; omega) hn
        refine ⟨hw3.trans wipe_wipe, ht _ _ _ (tMB_mk hC1 R3 (.inl ?_))⟩
        cases ht2 : t e2 with
        | bad => rw [ht2] at q; exact q.elim
        | ex x e3 => rw [ht2] at q; exact q.elim
        | ok b e3 =>
          rw [ht2] at q
          refine ⟨b, e3, rfl, fun tw4 G4 W4 H4 R4 => ?_⟩
          cases b with
          | false =>
            simp only [Bool.false_eq_true, if_false]
            obtain ⟨W5, R5⟩ := R4.rewipe (nrA ks xs) hw3
            exact ⟨G4, tw4, _, W5, ks, xs, R5, fz, q⟩
          | true =>
            simp only [if_true]
            simp only at q
            refine hk _ _ _ (tM_mk hC1 R4 (.inl ?_))
            split at q
            · rename_i k4 e4 hmk
              split at q
              · rename_i j hj
                obtain ⟨k', hv1, hv2⟩ := Option.bind_eq_some_iff.mp hj
                refine ⟨k4, e4, hmk, fun kv tw5 G5 W5 H5 R5 => ?_⟩
                obtain ⟨G6, tw6, R6, s6, f6⟩ := R5.frzTop hv1
                have hkv := keyI_ok hv2 (O.of_F (H := H5) f6)
                split at q
                · rename_i x5 e5 hmv
                  refine he _ _ _ (tM_mk hC1 R6 (.inl ⟨x5, e5, hmv, fun v tw7 G7 W7 H7 R7 => ?_⟩))
                  split at q
                  · rename_i y5 hy
                    split at q
                    · rename_i hc
                      split at q
                      · rename_i ls zs hp
                        obtain ⟨G8, tw8, R8, s8, f8⟩ := R7.frzTop hy
                        obtain ⟨vv, hH, hvl, tw9, R9, fz9⟩ := R8.put fz hc.1 f8 hp
                        refine ⟨_, j, hkv, hH, by rw [List.length_zip, sizeLine_eq]; omega, ?_⟩
                        obtain ⟨W10, R10⟩ := R9.rewipe (nrA ls zs) hw3
                        exact ⟨G8, tw9, _, W10, ls, zs, R10, fz9, q⟩
                      · exact q.elim
                    · exact q.elim
                  · exact q.elim
                · exact q.elim
              · exact q.elim
            · exact q.elim
    · have hi0 : i = ds.length := by omega
      subst hi0
      rw [List.drop_length] at q
      refine .inl ⟨wi.2 (Nat.le_refl _), ?_⟩
      simp only [dcL] at q
      obtain ⟨W5, R5⟩ := R'.rewipe (nrA ks xs) (σ' := σ) wipe_wipe
      exact q _ _ _ _ _ (R1.unaside (hS1 ▸ R5))
  · refine ⟨S, G, td, tv, tw, env, W, hC, R, ?_⟩
    rw [h1]
    exact q
end
section
variable {X : Cx} {tg iter c kx vx : Expr} {im : IM} {g : GM} {t : BM} {mk mv : EM} {n : Nat} {scope : Scope} {own : List (Str × Nat)} {pos spos py : Pos} {xd : Option Addr} {xn : Option Xn} {wx : WX} {i : Nat} {y : Str} {ro : List Bool}
theorem me_dc (hc : X.calm = true) (hN : X.N.Nodup) (hi : PI X tg iter (tMI (ct X xd xn) wx im)) (ok : BlkOk X.N X.env.scope scope own) (hgl : GL g)
    (hg : BlkAll X scope fun Y => PG Y tg (tMG (ct Y xd xn) (roC n (own.map (·.2))) g)) (hk : BlkAll X scope fun Y => PE Y kx (tM (ct Y xd xn) wxF mk)) (he : BlkAll X scope fun Y => PE Y vx (tM (ct Y xd xn) wxF mv)) (hs : ∀ x, foldedSetIterable iter X.env x = pure x := by intro _; rfl) :
    PE X (.DictComp kx vx [⟨tg, iter, [], 0⟩] scope pos) (tM (ct X xd xn) wx (dcM n (own.map (·.2)) im g yesB mk mv)) :=
  PEimp (pe_dc hc hN hi ok hg (fun s H C cl fp => pts_nil) hk he hs) (dc_imp (fun _ _ _ _ h => h) (fun σ H Q h => by
    obtain ⟨S, G, td, tv, tw, env, W, hC, R, q⟩ := h
    exact q _ _ _ _ R) (fun _ _ _ h => h) (fun _ _ _ h => h) hgl)
theorem me_dcIf (hc : X.calm = true) (hN : X.N.Nodup) (hi : PI X tg iter (tMI (ct X xd xn) wx im)) (ok : BlkOk X.N X.env.scope scope own) (hgl : GL g)
    (hg : BlkAll X scope fun Y => PG Y tg (tMG (ct Y xd xn) (roC n (own.map (·.2))) g)) (ht : BlkAll X scope fun Y => PT Y c (tMB (ct Y xd xn) wxF t)) (hk : BlkAll X scope fun Y => PE Y kx (tM (ct Y xd xn) wxF mk)) (he : BlkAll X scope fun Y => PE Y vx (tM (ct Y xd xn) wxF mv)) (hs : ∀ x, foldedSetIterable iter X.env x = pure x := by intro _; rfl) :
    PE X (.DictComp kx vx [⟨tg, iter, [c], 0⟩] scope pos) (tM (ct X xd xn) wx (dcM n (own.map (·.2)) im g t mk mv)) :=
  PEimp (pe_dc hc hN hi ok hg (fun s H C cl fp => pts_one (ht s H C cl fp)) hk he hs) (dc_imp (fun _ _ _ _ h => h) (fun _ _ _ h => h) (fun _ _ _ h => h) (fun _ _ _ h => h) hgl)
end
end Mx
set_option Elab.async false
set_option linter.all false
set_option maxRecDepth 100000
set_option maxHeartbeats 1000000
/-! Mx17: repr; f(*values) -/
namespace Mx
open PySem PySem.Spec L2 PyProof.Rows
/-! ### repr of lists and tuples -/
def isSq : PyData → Bool
  | .list _ => true
  | .tuple _ => true
  | _ => false
def reprD (d : D) : Option D := (py d).bind fun p => if isSq p = true ∧ p.showable = true ∧ p.hasDict = false ∧ p.depth ≤ 20 ∧ p.shown.length ≤ 1000000 then some (.str p.shown) else none
def rRepr (K : PySem.W.Frag) (A : Around) : List V → Hp → VK → Prop := fun xs H Q => ∃ a p, xs = [V.ref a] ∧ Dp K H (.ref a) p ∧ p.showable = true ∧ p.hasDict = false ∧ p.depth ≤ 20 ∧ p.shown.length ≤ 1000000 ∧ A.guards = some [] ∧ A.units + 64 < cLine ∧ Q (.str p.shown) H
theorem cr_repr {X : Cx} : CallR X (.builtin "repr") (rRepr X.K X.A) := fun pins s σ H xs us Q I r h => by
  obtain ⟨a, p, rfl, dp, hs, hd, h20, hz, hg, hu, q⟩ := h
  obtain rfl := Vals.ref1 r
  obtain ⟨as, rd⟩ := Dp.reads I p (.ref a) (.ref a) dp rfl
  refine repr_of_reads' (h₀ := s.heap) rd hs (fun z => by rw [hd] at z; cases z) hg (by omega) (fun b o e => e) (fun h' u tk hk => ?_) (by rw [sizeLine_eq]; omega)
  exact ⟨.str p.shown, H, I.kept hk, ⟨u, rfl⟩, q⟩
theorem b_repr {X : Cx} (hg : X.A.guards = some []) (hu : X.A.units + 64 < cLine) : B1 X (.builtin "repr") reprD := fun S G td tv tw env σ W H x z v w1 Q hK R o h q => by
  obtain ⟨p, h1, h⟩ := Option.bind_eq_some_iff.mp h
  split at h
  · rename_i hc
    cases h
    have dp := O.dp R.sub _ _ _ _ o h1
    have hv : ∃ a, v = .ref a := by
      obtain ⟨c1, _⟩ := hc
      cases p <;> simp only [isSq, Bool.false_eq_true] at c1
      · cases dp; exact ⟨_, rfl⟩
      · cases dp; exact ⟨_, rfl⟩
    obtain ⟨a, rfl⟩ := hv
    exact ⟨_, cr_repr, a, p, rfl, dp, hc.2.1, hc.2.2.1, hc.2.2.2.1, hc.2.2.2.2, hg, hu, q _ _ _ _ (R.push (by simp only [F]))⟩
  · cases h
/-! ### def f(a, .., *v) -/
/-- the callee's mirror at the values: what is left over is a new tuple -/
def star1 (j : Nat) (m : FM) (ts : List D) (e : Env) : Re D := match vals e ts with
  | none => .bad
  | some xs => if j ≤ xs.length ∧ xs.length ≤ 1000 then match m (xs.take j ++ [.tup (xs.drop j)]) with
      | .ok r _ => .ok r e
      | .ex x => .ex x e
      | .bad => .bad
    else .bad
def starM (n j : Nat) (m : FM) (a : AM) : EM := fun env => bindR (a env) fun ts e1 => if ts.length = n then star1 j m ts e1 else .bad
def spStar (K : PySem.W.Frag) (j : Nat) (m : FM) : Sp := fun vs H Q E => ∃ ws rest, vs = ws ++ rest ∧ ws.length = j ∧ rest.length ≤ sizeLine ∧ ∀ p, H p = none → spM K (j + 1) m (ws ++ [V.ref p]) (upd H p (.tup rest)) Q E
section
variable {P : Program} {w : World} {K : PySem.W.Frag} {mg : Str → Option Value} {base : Heap} {k : Nat} {f : Addr} {fd : FuncData} {ps N : List Str}
theorem fnStar {pv x qual : Str} {params : Arguments} {body : List Stmt} {scope : Scope} {ro : List Bool} {b : SM} (n : Nat) (Fd : FunD K x qual params body scope [] [] f fd) (S : FnScope N (ps ++ [pv]) scope)
    (hb : ∀ (kV doc pm : Value) (an : Option Addr) (cdv ct : Value) (us rest : List Value), us.length = ps.length → bindArgs (PySem.W.fnOf x qual params body scope .none kV doc pm an cdv ct) ⟨us ++ rest, []⟩ = (newTuple rest >>= fun t => pure (ps.zip us ++ [(pv, t)])))
    (hbody : ∀ (cdv : Value) (A : Around) (outer : List PySem.Env) (s : Shared) (H : Hp) (E : XK), Room k (A.deeper (envOfC qual scope s.heap.objs.size f cdv)) →
      PSs (cxOf (L2.CX P w) P w K mg base N qual scope f cdv A outer s H E) body (tMS (ct (cxOf (L2.CX P w) P w K mg base N qual scope f cdv A outer s H E) none none) (fun cls d _ H => E cls d H) ro b)) :
    FnCk false P w K mg base (k + 1) f n [] (spStar K ps.length (fnM (N.length - (ps.length + 1)) ro b)) := by
  obtain ⟨oc, od, dV, kV, doc, pm, an, cdv, ct', osl, rfl, lk, hcd, hD, hK⟩ := Fd.ex
  rcases hD with ⟨_, rfl⟩ | ⟨e, _⟩
  · have R := StX.fn_star (P := P) (w := w) (mg := mg) (base := base) (k := k) (sp := spM K (ps.length + 1) (fnM (N.length - (ps.length + 1)) ro b)) lk hcd S StX.cxUp (fun us rest hl => hb kV doc pm an cdv ct' us rest hl) (fun A outer s H vs Q E hr hsp =>
      body_ok rfl (hbody cdv A outer s H E hr) hsp.len hsp)
    refine ⟨fun A outer s H us ws vs zs Q E hr _ e0 l1 l2 r1 r2 q => ?_⟩
    have hz : zs = [] := List.eq_nil_of_length_eq_zero l2
    subst hz
    rw [List.append_nil] at q
    exact R A outer s H us vs Q E hr e0 r1 q
  · exact absurd rfl e
end
section
variable {X : Cx} {xd : Option Addr} {xn : Option Xn} {gd : Bool} {k n j : Nat} {f : Addr} {x : Str} {p pos : Pos} {e : Expr} {es : List Expr} {ma : AM} {wx : WX} {m : FM}
theorem RR.dropL {S : Sc} {G H : Hp} {td : List D} {tv : List V} {env : Env} {σ : L2.St} {W : List (List Addr)} {r : D} {vr : V} : ∀ {ds : List D} {vs : List V} {tw : List (List Addr)}, RR S G (r :: ds ++ td) (vr :: vs ++ tv) tw env σ W H → vs.length = ds.length → ∃ tw', RR S G (r :: td) (vr :: tv) tw' env σ W H
  | [], [], tw, R, _ => ⟨tw, R⟩
  | [], _ :: _, _, _, h => by cases h
  | _ :: _, [], _, _, h => by cases h
  | d :: ds, v :: vs, tw, R, h => by
    obtain ⟨tw', R2⟩ := RR.drop2 (td := ds ++ td) (tv := vs ++ tv) R
    exact RR.dropL (ds := ds) R2 (by simpa using h)
theorem me_callS (F : FnCk gd X.prog X.w X.K X.mg X.base k f n [] (spStar X.K j m)) (hr : Room k X.A) (hgd : gd = true → X.A.guards = some []) (tx : Takes X wx) (hg : Gl X x) (hm : X.mg x = some (.ref f)) (hk : PySem.W.keepIn X.K (.ref f) = true)
    (ha : PA X (e :: es) (tMA (ct X xd xn) wx ma)) (hdb : (x == ("__debug__" : Str)) = false := by decide) (he : starEach (e :: es) X.env = (false, eval e X.env) :: starEach es X.env := by rfl) (hpl : (backTo pos (starEach es X.env)).any (·.1) = false := by rfl) :
    PE X (.Call (.Name x p) (e :: es) [] pos) (tM (ct X xd xn) wx (starM n j m ma)) := PEimp (pe_ck F hr hgd tx hg hm hk ha hdb he hpl) fun σ H Q h => by
  obtain ⟨S, G, td, tv, tw, env, W, hC, R, q⟩ := h
  have hK : S.K = X.K := congrArg Ct.K hC
  rcases bindE q with ⟨ts, e1, h1, q⟩ | ⟨x, e1, h1, q⟩
  · refine tMA_mk hC R (.inl ⟨ts, e1, h1, fun vs tw1 G1 W1 H1 hl R1 => ?_⟩)
    split at q
    · rename_i hn
      refine ⟨hl.trans hn, rfl, ?_⟩
      unfold star1 at q
      split at q
      · exact q.elim
      · rename_i xs hx
        split at q
        · rename_i hc
          obtain ⟨G2, tw2, R2, s2, fl⟩ := R1.frzAll hl hx
          have hxl : xs.length = vs.length := fl.length
          refine ⟨vs.take j, vs.drop j, by rw [List.take_append_drop, List.append_nil], by rw [List.length_take]; omega, by rw [List.length_drop, sizeLine_eq]; omega, fun p hp => ?_⟩
          have R3 := R2.newTup hp (fl.drop j)
          have fl2 : FL S.K (upd G2 p (.tup (vs.drop j))) (xs.take j) (vs.take j) := FL.mono (Sub.new (R2.sub.none hp)) _ _ (fl.take j)
          obtain ⟨tw4, R4⟩ := R3.pushL fl2
          have R5 : RR S (upd G2 p (.tup (vs.drop j))) ((xs.take j ++ [.tup (xs.drop j)]) ++ td) ((vs.take j ++ [V.ref p]) ++ tv) tw4 e1 σ W1 (upd H1 p (.tup (vs.drop j))) := by simpa using R4
          have hlen : (vs.take j ++ [V.ref p]).length = (xs.take j ++ [D.tup (xs.drop j)]).length := by simp [hxl]
          obtain ⟨I, Wa, Ra, back, backX⟩ := R5.call hlen (fun i hi => by
            rcases List.mem_append.mp hi with z | z
            · exact fl2.nr i z
            · cases List.mem_singleton.mp z)
          refine ⟨S.sub (upd H1 p (.tup (vs.drop j))) (upd G2 p (.tup (vs.drop j))) I, _, Wa, by rw [← hK]; rfl, rfl, ?_, Ra, ?_⟩
          · rw [List.length_append, List.length_take, List.length_singleton]
            omega
          · cases hm2 : m (xs.take j ++ [.tup (xs.drop j)]) with
            | bad => rw [hm2] at q; exact q.elim
            | ex x =>
              rw [hm2] at q
              intro cls od tw' G' es σ' W' H' R' xr
              obtain ⟨tw7, R7⟩ := backX _ _ _ _ _ _ R'
              exact q cls od tw7 G' W1 H' R7 xr
            | ok r ds3 =>
              rw [hm2] at q
              intro vr tw' G' W' H' hr2 R'
              obtain ⟨tw7, R7⟩ := back _ _ _ _ _ _ _ hr2 R'
              have l3 := R'.sl.len.1
              simp only [List.length_map] at l3
              obtain ⟨tw8, R8⟩ := RR.dropL (ds := ds3) R7 l3.symm
              exact q vr tw8 G' W1 H' R8
        · exact q.elim
    · exact q.elim
  · exact tMA_mk hC R (.inr ⟨x, e1, h1, q⟩)
end
end Mx
set_option Elab.async false
set_option linter.all false
set_option maxRecDepth 100000
set_option maxHeartbeats 1000000
/-! Mx18: tuple[::-1]; small words for the printed texts -/
namespace HT
open PySem PySem.Spec PyProof.Rows
section
variable {prog : Program} {w : World} {A : Around} {E : Value → Shared → Prop} {s : Shared}
theorem adjust_rev (n : Nat) : Builtin.Slice.sliceAdjust none none (-1) (n : Int) = ((n : Int) - 1, -1) := by
  unfold Builtin.Slice.sliceAdjust
  simp
theorem places_rev (n : Nat) : Builtin.Slice.slicePlaces ((n : Int) - 1) (-1) (-1) = n := by
  unfold Builtin.Slice.slicePlaces
  by_cases h : (-1 : Int) < (n : Int) - 1
  · simp [h]
  · have : n = 0 := by omega
    subst this
    simp
theorem fm_congr {α β : Type} {f g : α → Option β} : ∀ {l : List α}, (∀ x ∈ l, f x = g x) → l.filterMap f = l.filterMap g
  | [], _ => rfl
  | a :: l, h => by
    rw [List.filterMap_cons, List.filterMap_cons, h a (List.mem_cons_self ..), fm_congr fun x hx => h x (List.mem_cons_of_mem _ hx)]
theorem pick_rev (xs : Array Value) : ((List.range xs.size).filterMap fun (k : Nat) => xs[(((xs.size : Int) - 1) + (k : Int) * (-1)).toNat]?).toArray = xs.toList.reverse.toArray := by
  congr 1
  have e : ∀ k ∈ List.range xs.size, xs[(((xs.size : Int) - 1) + (k : Int) * (-1)).toNat]? = xs[xs.size - 1 - k]? := fun k hk => by
    have hk := List.mem_range.mp hk
    congr 1
    omega
  rw [fm_congr e]
  have e2 : (List.range xs.size).filterMap (fun k => xs[xs.size - 1 - k]?) = ((List.range xs.size).map fun k => xs.size - 1 - k).filterMap (xs[·]?) := by
    rw [List.filterMap_map]
    rfl
  have e3 : ((List.range xs.size).map fun k => xs.size - 1 - k) = (List.range xs.size).reverse := by
    rw [List.range_eq_range', List.reverse_range']
    simp [List.range_eq_range']
  rw [e2, e3, List.filterMap_reverse]
  congr 1
  have := pick_run xs 0 xs.size
  have ht : List.take xs.size xs.toList = xs.toList := List.take_of_length_le (by simp)
  simpa [ht] using this
theorem sliceApplied_rev {sl : Addr} {vl vu vs : Value} {n : Nat} {Q : Int × Int × Nat → Shared → Prop} (hs : s.heap.IsSliceOf sl vl vu vs) (pl : IsPart vl none) (pu : IsPart vu none) (ps : IsPart vs (some (-1)))
    (h : Q ((n : Int) - 1, -1, n) s) : wpAny (model prog w) A (Builtin.Slice.sliceApplied (.ref sl) (pure (n : Int))) Q E s := by
  obtain ⟨os, hos, hcs, hds⟩ := id hs
  unfold Builtin.Slice.sliceApplied Builtin.Slice.sliceFields
  refine wpAny_bind (wpAny_bind (wpAny_field hos hds (x := vl) rfl (wpAny_bind (wpAny_field hos hds (x := vu) rfl (wpAny_bind (wpAny_field hos hds (x := vs) rfl (wpAny_pure ?_)))))))
  refine wpAny_bind (slicePart_ ps ?_)
  show wpAny _ _ (if ((-1 : Int) == 0) = true then _ else _) _ _ s
  rw [if_neg (by decide)]
  refine wpAny_bind (slicePart_ pl (wpAny_bind (slicePart_ pu (wpAny_bind (wpAny_pure ?_)))))
  show wpAny _ _ (match Builtin.Slice.sliceAdjust none none (-1) (n : Int) with | (lo, hi) => pure (lo, (-1 : Int), Builtin.Slice.slicePlaces lo hi (-1))) _ _ s
  rw [adjust_rev n]
  show wpAny _ _ (pure ((n : Int) - 1, (-1 : Int), Builtin.Slice.slicePlaces ((n : Int) - 1) (-1) (-1))) _ _ s
  rw [places_rev]
  exact wpAny_pure h
theorem getItem_tuple_rev {t sl : Addr} {items : Array Value} {vl vu vs : Value} {Q : Value → Shared → Prop} (ht : IsTup s.heap t items) (hs : s.heap.IsSliceOf sl vl vu vs) (pl : IsPart vl none) (pu : IsPart vu none) (ps : IsPart vs (some (-1)))
    (h : Q (.ref s.heap.objs.size) { s with heap := s.heap.push { cls := .type "tuple", data := .seq items.toList.reverse.toArray } }) (hsz : items.size ≤ sizeLine) : wpAny (model prog w) A (getItem (.ref t) (.ref sl)) Q E s := by
  have hz : sizeOk (.seq items.toList.reverse.toArray) := by
    show items.toList.reverse.toArray.size ≤ sizeLine
    simpa using hsz
  obtain ⟨os, hos, hcs, hds⟩ := id hs
  have hTs : s.TypeIs (.ref sl) "slice" := ⟨os, hos, hcs⟩
  unfold getItem
  try with_reducible refine wpAny_holding ?_
  first | refine wpAny_bind (wpAny_pure ?_) | skip
  refine wpAny_bind (wpAny_sequenceKey ht.typeIs (by decide) ?_)
  refine wpAny_bind (wpAny_callSpecial?_slot (name := Str.ofString "__getitem__") ht.typeIs PyProof.Rows.slot_tuple_getitem (wpAny_call_entry PyProof.Rows.slot_tuple_getitem ht.typeIs entry_tuple_getitem ?_ (args_tuple_getitem _ _)))
  show wpAny _ _ (Builtin.Tuple.tupleItemsOf (.ref t) >>= _) _ _ s
  refine wpAny_bind (tupleItemsOf_ ht ?_)
  refine wpAny_bind (wpAny_typeOf hTs ?_)
  rw [if_pos (by decide)]
  refine wpAny_bind (sliceApplied_rev hs pl pu ps ?_)
  have hno : ¬ ((((items.size : Int) - 1) == 0 && (-1 : Int) == 1 && items.size == items.size) = true) := by simp
  show wpAny _ _ (if (((items.size : Int) - 1) == 0 && (-1 : Int) == 1 && items.size == items.size) = true then _ else _) _ _ s
  rw [if_neg hno, pick_rev]
  first
    | exact wpAny_bind (m := Builtin.Tuple.tupleExact _) (wpAny_newObj_type (wpAny_pure ⟨_, rfl, wpAny_pure h⟩) hz)
    | exact wpAny_bind (m := Builtin.Tuple.tupleExact _) (wpAny_newObj_type (wpAny_bind (wpAny_pure (wpAny_pure ⟨_, rfl, wpAny_pure h⟩))) hz)
    | exact wpAny_bind (wpAny_bind (m := Builtin.Tuple.tupleExact _) (wpAny_newObj_type (wpAny_pure (wpAny_pure ⟨_, rfl, wpAny_pure h⟩)) hz))
    | exact wpAny_bind (wpAny_bind (m := Builtin.Tuple.tupleExact _) (wpAny_newObj_type (wpAny_pure ⟨_, rfl, wpAny_pure h⟩) hz))
end
end HT
namespace Mx
open PySem PySem.Spec L2 PyProof.Rows
section
variable {X : Cx} {xd : Option Addr} {xn : Option Xn} {wx : WX} {e a b : Expr} {ma m : EM} {pos p : Pos} {i : Nat} {x : Str} {ro : List Bool}
/-- xs[::-1], a list or a tuple -/
def tRevA (K : PySem.W.Frag) (te : TE) : TE := fun σ H Q => te σ H fun x H1 => ∃ a xs, x = .ref a ∧ ((SqL K H1 a xs ∧ ∀ p, H1 p = none → Q (.ref p) (upd H1 p (.lst xs.reverse))) ∨ (SqT K H1 a xs ∧ ∀ p, H1 p = none → Q (.ref p) (upd H1 p (.tup xs.reverse))))
theorem pe_revA {te : TE} {k : Nat} {p1 p2 p3 : Pos} (he : PE X e te) : PE X (.Subscript e (.Slice none none (some (.UnaryOp .USub (.Constant (.int 1) k p1) p2)) p3) pos) (tRevA X.K te) := by
  refine ⟨fun pins s σ H Q I h => ?_⟩
  refine Subscript_ (thn (he.run pins s σ H _ I h) fun v s1 ⟨y, H1, I1, r1, a, xs, ex, q⟩ => ?_)
  subst ex
  cases r1
  have hst : PO X (some (.UnaryOp .USub (.Constant (.int 1) k p1) p2)) (tPart (tUn (rU fun i => .int (-i)) (tC (.int 1)))) := po_some (pe_un un_neg pe_int)
  refine wpAny_Slice (thn (po_none.run pins s1 σ H1 (fun o H2 => o = none ∧ H2 = H1) I1 ⟨rfl, rfl⟩) fun vl s2 ⟨l, H2, I2, pl, el, e2⟩ => ?_)
  subst el e2
  refine thn (po_none.run pins s2 σ H2 (fun o H3 => o = none ∧ H3 = H2) I2 ⟨rfl, rfl⟩) fun vu s3 ⟨u, H3, I3, pu, eu, e3⟩ => ?_
  subst eu e3
  refine thn (hst.run pins s3 σ H3 (fun o H4 => o = some (-1) ∧ H4 = H3) I3 ⟨1, rfl, -1, rfl, rfl, rfl⟩) fun vs s4 ⟨o, H4, I4, ps, eo, e4⟩ => ?_
  subst eo e4
  have I5 : Inv X pins σ H4 { s4 with heap := s4.heap.push { cls := .type "slice", data := .fields #[vl, vu, vs] } } := I4.kept (t' := s4.toks) fun b ob q => Heap.get?_push_of_some _ q
  show wpAny (model X.prog X.w) X.A (subscriptTail e (.Slice none none (some (.UnaryOp .USub (.Constant (.int 1) k p1) p2)) p3) (.ref a) (.ref s4.heap.objs.size)) (EP X pins σ Q) X.xe { s4 with heap := s4.heap.push { cls := .type "slice", data := .fields #[vl, vu, vs] } }
  rcases q with ⟨hx, q⟩ | ⟨hx, q⟩
  · obtain ⟨its, r, ht, hz⟩ := I5.list hx
    have hlen := r.length
    refine tail_any (ops := [.ref a, .ref s4.heap.objs.size]) ht.isList.typeIs (PySem.slot_list_getitem.lookup) ?_ (by with_unfolding_all rfl)
    refine wpAny_getItem_list_slice ht.isList (Heap.IsSliceOf.new _ vl vu vs) pl pu ps (by decide) ?_ (by rw [List.size_toArray]; omega)
    rw [PySem.W.krv_pick]
    exact ⟨.ref _, _, I5.laid (t' := s4.toks) (o := .lst xs.reverse) (fun b ob q => Heap.get?_push_of_some _ q) (Nat.le_refl _) ⟨by rw [List.length_reverse]; exact hz, _, 0, r.reverse, Heap.get?_push_size _ rfl⟩, rfl, q _ (I5.hok.fresh (Nat.le_refl _))⟩
  · obtain ⟨its, r, ht, hz⟩ := I5.tuple hx
    have hlen := r.length
    refine tail_any (ops := [.ref a, .ref s4.heap.objs.size]) ht.typeIs (PyProof.Rows.slot_tuple_getitem.lookup) ?_ (by with_unfolding_all rfl)
    refine HT.getItem_tuple_rev ht (Heap.IsSliceOf.new _ vl vu vs) pl pu ps ?_ (by rw [List.size_toArray]; omega)
    exact ⟨.ref _, _, I5.laid (t' := s4.toks) (o := .tup xs.reverse) (fun b ob q => Heap.get?_push_of_some _ q) (Nat.le_refl _) ⟨by rw [List.length_reverse]; exact hz, _, r.reverse, IsTup.new _ _⟩, rfl, q _ (I5.hok.fresh (Nat.le_refl _))⟩
def revA (d : D) : Option D := match lstI d with
  | some ds => some (.own ds.reverse)
  | none => (tupI d).map fun ds => .tup ds.reverse
theorem me_revA {k : Nat} {p1 p2 p3 : Pos} (ha : PE X a (tM (ct X xd xn) wx ma)) : PE X (.Subscript a (.Slice none none (some (.UnaryOp .USub (.Constant (.int 1) k p1) p2)) p3) pos) (tM (ct X xd xn) wx (unM revA ma)) :=
  PEimp (pe_revA ha) fun σ H Q h => tM_un (r := fun x H1 Q => ∃ a xs, x = .ref a ∧ ((SqL X.K H1 a xs ∧ ∀ p, H1 p = none → Q (.ref p) (upd H1 p (.lst xs.reverse))) ∨ (SqT X.K H1 a xs ∧ ∀ p, H1 p = none → Q (.ref p) (upd H1 p (.tup xs.reverse))))) (fun S G td tv tw env σ W H x z v w1 Q hK R ox hf q => by
    unfold revA at hf
    split at hf
    · cases hf
      obtain ⟨p, vs, rfl, sq, fl⟩ := ox.lstI R.sub (by assumption)
      exact ⟨p, vs, rfl, .inl ⟨sq, fun r hr => q _ _ _ _ (R.newLst hr (hK ▸ fl.reverse))⟩⟩
    · obtain ⟨ds, h1, rfl⟩ := Option.map_eq_some_iff.mp hf
      obtain ⟨p, vs, rfl, sq, fl⟩ := ox.tupI R.sub h1
      exact ⟨p, vs, rfl, .inr ⟨sq, fun r hr => q _ _ _ _ (R.newTup hr (hK ▸ fl.reverse))⟩⟩) h
/-! ### small words -/
theorem me_one {op : BoolOp} (h : PE X a (tM (ct X xd xn) wx ma)) : PE X (.BoolOp op [a] pos) (tM (ct X xd xn) wx ma) := ⟨fun pins s σ H Q I q => BoolOp_one (h.run pins s σ H Q I q)⟩
/-- a value is frozen at once -/
def fz1 (x : D) (e : Env) : Re D := match val e x with
  | some y => .ok y e
  | none => .bad
def fzM (m : EM) : EM := fun env => bindR (m env) fz1
theorem me_fz (h : PE X a (tM (ct X xd xn) wx ma)) : PE X a (tM (ct X xd xn) wx (fzM ma)) := PEimp h fun σ H Q h => by
  obtain ⟨S, G, td, tv, tw, env, W, hC, R, q⟩ := h
  rcases bindE q with ⟨d, e1, h1, q⟩ | ⟨y, e1, h1, q⟩
  · refine tM_mk hC R (.inl ⟨d, e1, h1, fun v tw1 G1 W1 H1 R1 => ?_⟩)
    unfold fz1 at q
    split at q
    · obtain ⟨G2, tw2, R2, s2, f⟩ := R1.frzTop (by assumption)
      exact q _ _ _ _ _ (R2.push f)
    · exact q.elim
  · exact tM_mk hC R (.inr ⟨y, e1, h1, q⟩)
/-- a slot's value, frozen from here on -/
def vfzM (i : Nat) : EM := fun env => match env[i]? with
  | some (some d) => .ok (.rf i) (env.set i (some d.frz))
  | _ => .bad
theorem me_vfz (hN : X.N[i]? = some x) (hv : Vis X.env.scope x) (hd : (x == ("__debug__" : Str)) = false := by decide) (hcd : (x == ("__classdict__" : Str)) = false := by decide) : PE X (.Name x pos) (tM (ct X xd xn) wx (vfzM i)) :=
  PEimp (pe_var hN hv hd hcd) fun σ H Q h => by
    obtain ⟨S, G, td, tv, tw, env, W, hC, R, q⟩ := h
    unfold vfzM at q
    split at q
    · rename_i d hd
      obtain ⟨v, w, h1, _, _⟩ := R.sl.get hd
      obtain ⟨G2, W2, R2, _⟩ := R.frzSlot hd
      exact ⟨v, h1, q _ _ _ _ _ (R2.pushR h1)⟩
    · exact q.elim
theorem takesF {Y : Cx} : Takes Y wxF := fun u s' ⟨_, _, _, _, _, _, _, _, _, _, _, _, _, _, _, _, w⟩ => w.elim
end
end Mx
set_option Elab.async false
set_option linter.all false
set_option maxRecDepth 100000
set_option maxHeartbeats 1000000
/-! Mx19: dict(pairs), () as a plain tuple, d.get(k), sorted ints, list(range(..)) -/
namespace Mx
open PySem PySem.Spec L2 PyProof.Rows
/-! ### dict(t) of a tuple of pairs -/
section
variable {X : Cx}
theorem call_dictT (hcalm : X.calm = true) : CallR X (.type "dict") (fun xs H Q => ∃ (a : Addr) (o : Obj) (ps : List Addr) (kvs : List (Key × V)), xs = [.ref a] ∧ H a = some (.frz o (.tup (ps.map V.ref))) ∧ o.dict = none ∧ Paired (fun p kv => SqT X.K H p [kV kv.1, kv.2]) ps kvs ∧
    ∀ p, H p = none → Q (.ref p) (upd H p (.dK (mergeK [] kvs)))) := by
  intro pins s σ H xs us Q I r q
  obtain ⟨a, o, ps, kvs, ex, hq, hd, hp, q⟩ := q
  subst ex
  obtain ⟨u, eu, rx⟩ := vals1 r
  subst eu
  cases rx
  obtain ⟨hg, hz, its, rv, o', ho', hc, n, hdat⟩ := (show ObjOk X.prog X.w H s.heap a (.frz o (.tup (ps.map V.ref))) from I.hok a _ hq)
  rw [hg] at ho'
  cases ho'
  have ei := refs_at rv
  subst ei
  rw [List.length_map] at hz
  obtain ⟨prs, rel, hl, hpr⟩ := pairs_of I hp
  obtain ⟨tps, e1, e2⟩ : ∃ tps : List (Value × Value), tps.length = ps.length ∧ ∀ (j : Nat) (u v : Value), tps[j]? = some (u, v) → ∃ b k, ps[j]? = some b ∧ IsTup s.heap b #[u, v] ∧ prs[j]? = some (k, v) ∧ keyIs k u = true := by
    have key : ∀ (n : Nat) (qs : List (Key × Value)) (bs : List Addr), qs.length = bs.length → (∀ (j : Nat) (q : Key × Value), qs[j]? = some q → ∃ (b : Addr) (u : Value), bs[j]? = some b ∧ IsTup s.heap b #[u, q.2] ∧ keyIs q.1 u = true) →
        ∃ tps : List (Value × Value), tps.length = bs.length ∧ ∀ (j : Nat) (u v : Value), tps[j]? = some (u, v) → ∃ b k, bs[j]? = some b ∧ IsTup s.heap b #[u, v] ∧ qs[j]? = some (k, v) ∧ keyIs k u = true := by
      intro n qs
      induction qs with
      | nil =>
        intro bs hl _
        exact ⟨[], by simpa using hl, fun j u v e => by simp at e⟩
      | cons q qs ih =>
        intro bs hl h
        cases bs with
        | nil => simp at hl
        | cons b bs =>
          obtain ⟨tps, t1, t2⟩ := ih bs (by simpa using hl) (fun j q' e => by
            obtain ⟨b', u', a1, a2, a3⟩ := h (j + 1) q' (by simpa using e)
            exact ⟨b', u', by simpa using a1, a2, a3⟩)
          obtain ⟨b', u', a1, a2, a3⟩ := h 0 q rfl
          cases (Option.some.inj a1 : b = b')
          refine ⟨(u', q.2) :: tps, by simp [t1], fun j u v e => ?_⟩
          cases j with
          | zero =>
            cases (Option.some.inj e : (u', q.2) = (u, v))
            exact ⟨b, q.1, rfl, a2, rfl, a3⟩
          | succ j =>
            obtain ⟨b2, k2, c1, c2, c3, c4⟩ := t2 j u v (by simpa using e)
            exact ⟨b2, k2, by simpa using c1, c2, by simpa using c3, c4⟩
    exact key 0 prs ps hl hpr
  refine PySem.call_dict_pairs (knd := mixKind X.prog X.w) (kvs := prs) (PairArg.tuple a (ps.map Value.ref).toArray (fun j => (ps[j]?).getD 0) tps) (I.ok.hd hcalm) ⟨⟨o, n, hg, hc, hd, hdat⟩, by simp [e1], fun j k v e => ?_⟩ ⟨by rw [hl, e1], fun i key v e => ?_⟩ (by rw [e1]; exact hz) fun h' tk hd' k => ?_
  · obtain ⟨b, k2, c1, c2, c3, c4⟩ := e2 j k v e
    refine ⟨by simp [c1], .inl ?_⟩
    show s.heap.IsTuple ((ps[j]?).getD 0) #[k, v]
    rw [c1]
    obtain ⟨ob, d1, d2, d3⟩ := c2
    exact ⟨ob, d1, d2, d3⟩
  · obtain ⟨b, k2, c1, c2, c3, c4⟩ := e2 i key v e
    exact ⟨k2, c3, c4⟩
  · have hm : (s.heap.objs.size == sysModules) = false := beq_eq_false_iff_ne.mpr (Nat.ne_of_gt I.big)
    have hlen : (mergeK [] kvs).length ≤ sizeLine := by
      refine Nat.le_trans (length_mergeK kvs []) ?_
      rw [List.length_nil, Nat.zero_add, rel.length, hl]
      exact hz
    exact ⟨.ref s.heap.objs.size, upd H s.heap.objs.size (.dK (mergeK [] kvs)), I.laid (t' := tk) (fun b o e => k b o (by simp) e) (Nat.le_refl _) (show ObjOk X.prog X.w _ _ _ (.dK (mergeK [] kvs)) from ⟨hlen, hm, merged [] prs, KV.merge rel .nil, hd'⟩), rfl, q _ (I.hok.fresh (Nat.le_refl _))⟩
end
def pairI (d : D) : Option (Key × D) := match tupI d with
  | some [k, v] => (keyI k).map fun j => (j, v)
  | _ => none
def prsI : List D → Option (List (Key × D))
  | [] => some []
  | d :: ds => match pairI d with
    | some p => (prsI ds).map (p :: ·)
    | none => none
def mergeD (ks : List Key) (xs : List D) : List (Key × D) → Option (List Key × List D)
  | [] => some (ks, xs)
  | p :: ps => if ndK ks = true then match putKey ks xs p.1 p.2 with
      | some (ls, zs) => mergeD ls zs ps
      | none => none
    else none
theorem prsI_F {K : PySem.W.Frag} {G : Hp} : ∀ {ds : List D} {vs : List V} {prs : List (Key × D)}, prsI ds = some prs → FL K G ds vs →
    ∃ (ps : List Addr) (kvs : List (Key × V)), vs = ps.map V.ref ∧ Paired (fun p kv => SqT K G p [kV kv.1, kv.2]) ps kvs ∧ prs.map (·.1) = kvs.map (·.1) ∧ FL K G (prs.map (·.2)) (kvs.map (·.2))
  | [], vs, prs, h, f => by
    simp only [prsI, Option.some.injEq] at h
    simp only [FL] at f
    subst h f
    exact ⟨[], [], rfl, .nil, rfl, by simp [FL]⟩
  | d :: ds, vs, prs, h, f => by
    simp only [prsI] at h
    split at h
    · rename_i p hp
      obtain ⟨qs, h1, rfl⟩ := Option.map_eq_some_iff.mp h
      simp only [FL] at f
      obtain ⟨v, ws, rfl, f1, f2⟩ := f
      obtain ⟨as, kvs, rfl, pr, e1, e2⟩ := prsI_F h1 f2
      unfold pairI at hp
      split at hp
      · rename_i k x ht
        obtain ⟨j, hj, rfl⟩ := Option.map_eq_some_iff.mp hp
        obtain ⟨a, us, rfl, sq, fl⟩ := (O.of_F (H := G) f1).tupI (Sub.refl G) ht
        simp only [FL] at fl
        obtain ⟨kv, _, rfl, fk, xv, _, rfl, fx, rfl⟩ := fl
        have := keyI_ok hj (O.of_F (H := G) fk)
        subst this
        refine ⟨a :: as, (j, xv) :: kvs, rfl, .cons sq pr, by simp [e1], ?_⟩
        simp only [List.map_cons, FL]
        exact ⟨xv, _, rfl, fx, e2⟩
      · cases hp
    · cases h
theorem mergeD_F {K : PySem.W.Frag} {G : Hp} : ∀ {prs : List (Key × D)} {kvs : List (Key × V)} {ks ls : List Key} {xs zs : List D} {vs : List V}, mergeD ks xs prs = some (ls, zs) → prs.map (·.1) = kvs.map (·.1) → FL K G (prs.map (·.2)) (kvs.map (·.2)) → ks.length = vs.length → FL K G xs vs →
    ∃ us, mergeK (ks.zip vs) kvs = ls.zip us ∧ ls.length = us.length ∧ FL K G zs us
  | [], kvs, ks, ls, xs, zs, vs, h, e, f, hl, fx => by
    simp only [mergeD, Option.some.injEq, Prod.mk.injEq] at h
    obtain ⟨rfl, rfl⟩ := h
    have : kvs = [] := by
      cases kvs with
      | nil => rfl
      | cons _ _ => simp at e
    subst this
    exact ⟨vs, rfl, hl, fx⟩
  | p :: prs, [], ks, ls, xs, zs, vs, h, e, f, hl, fx => by simp at e
  | p :: prs, kv :: kvs, ks, ls, xs, zs, vs, h, e, f, hl, fx => by
    simp only [mergeD] at h
    split at h
    · split at h
      · rename_i nd _ l1 z1 hp
        simp only [List.map_cons, FL] at f
        obtain ⟨v, ws, e2, f1, f2⟩ := f
        simp only [List.cons.injEq] at e2
        obtain ⟨rfl, rfl⟩ := e2
        simp only [List.map_cons, List.cons.injEq] at e
        obtain ⟨us, u1, u2, u3⟩ := putKey_F f1 hp nd hl fx
        obtain ⟨us2, w1, w2, w3⟩ := mergeD_F h e.2 f2 u2 u3
        refine ⟨us2, ?_, w2, w3⟩
        have e3 : mergeK (ks.zip vs) (kv :: kvs) = mergeK (putK (ks.zip vs) kv.1 kv.2) kvs := rfl
        rw [e3, ← e.1, u1, w1]
      · cases h
    · cases h
/-- dict(x): of a dict, of a list of pairs, of a plain tuple of pairs -/
def dictA (d : D) : Option D := match dictI d with
  | some z => some (.odct z.1 z.2)
  | none => match d with
    | .ptp ds => (prsI ds).bind fun ps => (mergeD [] [] ps).map fun z => .odct z.1 z.2
    | d => (lstI d).bind fun ds => (prsI ds).bind fun ps => (mergeD [] [] ps).map fun z => .odct z.1 z.2
section
variable {X : Cx} {xd : Option Addr} {xn : Option Xn} {wx : WX} {p pos p1 p2 p3 apos : Pos} {e o i f : Expr} {ma mb m mo mx im : EM} {x : Str} {ro : List Bool} {s : Nat}
theorem b_dictA (hc : X.calm = true) : B1 X (.type "dict") dictA := fun S G td tv tw env σ W H x z v w1 Q hK R o h q => by
  unfold dictA at h
  split at h
  · rename_i zz hz
    cases h
    obtain ⟨a, vs, rfl, q1, q2, q3⟩ := dictI_ok R.sub (show dictI x = some (zz.1, zz.2) from hz) o
    refine ⟨_, call_dictD, a, _, rfl, q1, fun p hp => q _ _ _ _ (R.newO hp ?_)⟩
    simp only [O]
    exact ⟨p, vs, [], rfl, rfl, upd_same, R.sub.none hp, q2, OL.of_FL (hK ▸ q3)⟩
  · split at h
    · rename_i ds _ _
      obtain ⟨ps, h1, h⟩ := Option.bind_eq_some_iff.mp h
      obtain ⟨⟨ls, zs⟩, h2, rfl⟩ := Option.map_eq_some_iff.mp h
      simp only [O, F] at o
      obtain ⟨_, a, ob, vs, rfl, g, hd, fl⟩ := o
      obtain ⟨as, kvs, rfl, pr, e1, e2⟩ := prsI_F h1 fl
      obtain ⟨us, u1, u2, u3⟩ := mergeD_F (vs := []) h2 e1 e2 rfl (by simp [FL])
      refine ⟨_, call_dictT hc, a, ob, as, kvs, rfl, R.sub.get g, hd, Paired.mapP pr (fun p kv sq => R.sub.st sq), fun p hp => ?_⟩
      replace u1 : mergeK [] kvs = ls.zip us := u1
      rw [u1]
      exact q _ _ _ _ (R.newO hp (by
        simp only [O]
        exact ⟨p, us, [], rfl, rfl, upd_same, R.sub.none hp, u2, OL.of_FL (hK ▸ u3)⟩))
    · obtain ⟨ds, h0, h⟩ := Option.bind_eq_some_iff.mp h
      obtain ⟨ps, h1, h⟩ := Option.bind_eq_some_iff.mp h
      obtain ⟨⟨ls, zs⟩, h2, rfl⟩ := Option.map_eq_some_iff.mp h
      obtain ⟨a, vs, rfl, sq, fl⟩ := o.lstI R.sub h0
      obtain ⟨as, kvs, rfl, pr, e1, e2⟩ := prsI_F h1 fl
      obtain ⟨us, u1, u2, u3⟩ := mergeD_F (vs := []) h2 e1 e2 rfl (by simp [FL])
      refine ⟨_, call_dictP hc, a, as, kvs, rfl, sq, Paired.mapP pr (fun p kv sq => R.sub.st sq), fun p hp => ?_⟩
      replace u1 : mergeK [] kvs = ls.zip us := u1
      rw [u1]
      exact q _ _ _ _ (R.newO hp (by
        simp only [O]
        exact ⟨p, us, [], rfl, rfl, upd_same, R.sub.none hp, u2, OL.of_FL (hK ▸ u3)⟩))
/-! ### () -/
theorem pe_unit {x1} (h : PA X [] tNil := pa_nil) : PE X (.Tuple [] x1 pos) (fun σ H Q => ∀ p o, H p = none → o.dict = none → Q (.ref p) (upd H p (.frz o (.tup [])))) := by
  refine ⟨fun pins s σ H Q I hq => ?_⟩
  refine wpAny_Tuple_spliced (thn (h.run pos pins s σ H (fun vs H1 => vs = [] ∧ H1 = H) I ⟨rfl, rfl⟩) fun us s1 ⟨xs, H1, I1, r, e1, e2⟩ => ?_)
  subst e1 e2
  cases r
  refine ⟨by decide, ?_⟩
  have hf : H1 s1.heap.objs.size = none := I1.hok.fresh (Nat.le_refl _)
  refine ⟨.ref s1.heap.objs.size, _, I1.laid (t' := s1.toks) (o := .frz { cls := .type "tuple", data := .seq ([] : List Value).toArray } (.tup [])) (fun b u e => Heap.get?_push_of_some _ e) (Nat.le_refl _) ?_, rfl, hq _ _ hf rfl⟩
  exact ⟨Heap.get?_push_size _ rfl, by show 0 ≤ sizeLine; decide, [], .nil, ⟨_, Heap.get?_push_size _ rfl, rfl, _, rfl⟩⟩
theorem me_unit {x1} : PE X (.Tuple [] x1 pos) (tM (ct X xd xn) wx (cstM (.ptp []))) := PEimp pe_unit fun σ H Q h => by
  obtain ⟨S, G, td, tv, tw, env, W, hC, R, q⟩ := h
  exact fun p o hp hd => q _ _ _ _ _ (R.newPtp hp hd (by simp [FL]))
/-! ### d.get(k) -/
def get1 (d k : D) (e : Env) : Re D := match deref e d with
  | some d' => match dictI d' with
    | some (ks, xs) => match (deref e k).bind keyI with
      | some j => .ok ((getKey ks xs j).getD .non) e
      | none => .bad
    | none => .bad
  | none => .bad
def dget1M (o a : EM) : EM := fun env => bindR (o env) fun d e1 => match (deref e1 d).bind dictI with
  | some _ => bindR (a e1) fun k e2 => get1 d k e2
  | none => .bad
theorem me_dget1 (hu : X.A.units + 1 < cLine) (ho : PE X o (tM (ct X xd xn) wx mo)) (he : PE X e (tM (ct X xd xn) wx ma)) (mm : M1 X o "get" apos e pos := by exact ⟨rfl, rfl, rfl, rfl⟩) : PE X (.Call (.Attribute o "get" apos) [e] [] pos) (tM (ct X xd xn) wx (dget1M mo ma)) :=
  PEimp (pe_dget1 hu ho he mm) fun σ H Q h => by
  obtain ⟨S, G, td, tv, tw, env, W, hC, R, q⟩ := h
  have hK : S.K = X.K := congrArg Ct.K hC
  rcases bindE q with ⟨d, e1, h1, q⟩ | ⟨y, e1, h1, q⟩
  · refine tM_mk hC R (.inl ⟨d, e1, h1, fun v tw1 G1 W1 H1 R1 => ?_⟩)
    split at q
    · rename_i z hz
      obtain ⟨d', hd', hz⟩ := Option.bind_eq_some_iff.mp hz
      obtain ⟨w1, o1⟩ := R1.look hd'
      obtain ⟨a, vs, rfl, r1, _⟩ := dictI_ok R1.sub (show dictI d' = some (z.1, z.2) from hz) o1
      refine ⟨a, rfl, .inl ⟨_, r1⟩, ?_⟩
      rcases bindE q with ⟨k, e2, h2, q⟩ | ⟨y, e2, h2, q⟩
      · refine tM_mk hC R1 (.inl ⟨k, e2, h2, fun ky tw2 G2 W2 H2 R2 => ?_⟩)
        unfold get1 at q
        split at q
        · rename_i d2 hd2
          split at q
          · rename_i ks xs hdi
            split at q
            · rename_i j hj
              obtain ⟨k', hk', hj⟩ := Option.bind_eq_some_iff.mp hj
              obtain ⟨w4, ok⟩ := R2.look hk'
              have := keyI_ok hj ok
              subst this
              obtain ⟨_, tw5, _, R5⟩ := R2.pop
              obtain ⟨w5, od⟩ := R5.look hd2
              obtain ⟨a', vs', e5, r5, l5, f5⟩ := dictI_ok R5.sub hdi od
              cases e5
              obtain ⟨_, tw6, _, R6⟩ := R5.pop
              rcases getKey_F (j := j) l5 f5 with ⟨n1, n2⟩ | ⟨x1, v1, g1, g2, fv⟩
              · rw [n1] at q
                exact ⟨none, .inl ⟨_, j, r5, rfl, n2.symm⟩, q _ _ _ _ _ (R6.push (by simp only [Option.getD_none, F]))⟩
              · rw [g1] at q
                exact ⟨some v1, .inl ⟨_, j, r5, rfl, g2.symm⟩, q _ _ _ _ _ (R6.push fv)⟩
            · exact q.elim
          · exact q.elim
        · exact q.elim
      · exact tM_mk hC R1 (.inr ⟨y, e2, h2, q.pop⟩)
    · exact q.elim
  · exact tM_mk hC R (.inr ⟨y, e1, h1, q⟩)
/-! ### sorted ints -/
def insI (x : Int) : List Int → List Int
  | [] => [x]
  | y :: ys => if y < x then y :: insI x ys else x :: y :: ys
def srtI : List Int → List Int
  | [] => []
  | x :: xs => insI x (srtI xs)
theorem insI_perm (x : Int) : ∀ l : List Int, (insI x l).Perm (x :: l)
  | [] => .refl _
  | y :: ys => by
    unfold insI
    split
    · exact ((insI_perm x ys).cons y).trans (List.Perm.swap _ _ _)
    · exact .refl _
theorem srtI_perm : ∀ l : List Int, (srtI l).Perm l
  | [] => .refl _
  | x :: xs => (insI_perm x _).trans ((srtI_perm xs).cons x)
theorem insI_srt (x : Int) : ∀ l : List Int, l.Pairwise (· ≤ ·) → (insI x l).Pairwise (· ≤ ·)
  | [], _ => by simp [insI]
  | y :: ys, h => by
    obtain ⟨h1, h2⟩ := List.pairwise_cons.mp h
    unfold insI
    split
    · refine List.pairwise_cons.mpr ⟨fun z hz => ?_, insI_srt x ys h2⟩
      rcases List.mem_cons.mp ((insI_perm x ys).mem_iff.mp hz) with rfl | hz
      · omega
      · exact h1 z hz
    · refine List.pairwise_cons.mpr ⟨fun z hz => ?_, h⟩
      rcases List.mem_cons.mp hz with rfl | hz
      · omega
      · have := h1 z hz
        omega
theorem srtI_srt : ∀ l : List Int, (srtI l).Pairwise (· ≤ ·)
  | [] => .nil
  | x :: xs => insI_srt x _ (srtI_srt xs)
theorem srtI_uniq : ∀ {l m : List Int}, l.Perm m → l.Pairwise (· ≤ ·) → m.Pairwise (· ≤ ·) → l = m
  | [], m, p, _, _ => by
    rw [List.nil_perm] at p
    exact p.symm
  | x :: xs, m, p, h1, h2 => by
    cases m with
    | nil => exact absurd p.length_eq (by simp)
    | cons y ys =>
      obtain ⟨a1, a2⟩ := List.pairwise_cons.mp h1
      obtain ⟨b1, b2⟩ := List.pairwise_cons.mp h2
      have e : x = y := by
        have m1 : x ∈ y :: ys := p.mem_iff.mp (List.mem_cons_self ..)
        have m2 : y ∈ x :: xs := p.mem_iff.mpr (List.mem_cons_self ..)
        rcases List.mem_cons.mp m1 with e | m1
        · exact e
        · rcases List.mem_cons.mp m2 with e | m2
          · exact e.symm
          · have := a1 y m2
            have := b1 x m1
            omega
      subst e
      rw [srtI_uniq (List.perm_cons x |>.mp p) a2 b2]
def sortedI (d : D) : Option D := (lstI d).bind fun ds => (nums ds).map fun ns => .own ((srtI ns).map .int)
theorem b_sortedI : B1 X (.builtin "sorted") sortedI := fun S G td tv tw env σ W H x z v w1 Q hK R o h q => by
  obtain ⟨ds, h1, h⟩ := Option.bind_eq_some_iff.mp h
  obtain ⟨ns, h2, rfl⟩ := Option.map_eq_some_iff.mp h
  obtain ⟨a, vs, rfl, sq, fl⟩ := o.lstI R.sub h1
  have := nums_ok h2 fl
  subst this
  refine ⟨_, cr_sortedI, a, ns, rfl, sq, fun ns' p pm ps hp => ?_⟩
  rw [srtI_uniq (pm.trans (srtI_perm ns).symm) ps (srtI_srt ns)]
  exact q _ _ _ _ (R.newLst hp (FL.nums _))
/-! ### list(range(..)) -/
def lrg (i j : Int) (e : Env) : Re D := if small62 i && small62 j && decide ((j - i).toNat ≤ 16777216) then .ok (.own (rangeD i (j - i).toNat)) e else .bad
def lrg2 (t u : D) (e : Env) : Re D := match deref e t with
  | some (.int i) => match deref e u with
    | some (.int j) => lrg i j e
    | _ => .bad
  | _ => .bad
def lrg1 (t : D) (e : Env) : Re D := match deref e t with
  | some (.int j) => lrg 0 j e
  | _ => .bad
def lrg2M (a b : EM) : EM := fun env => bindR (a env) fun x e1 => bindR (b e1) fun y e2 => lrg2 x y e2
def lrg1M (a : EM) : EM := fun env => bindR (a env) fun x e1 => lrg1 x e1
theorem rangeD_F {K : PySem.W.Frag} {G : Hp} (i : Int) (n : Nat) : FL K G (rangeD i n) ((List.range n).map fun k => V.int (i + (k : Nat))) := by
  have key : ∀ l : List Nat, FL K G (l.map fun (k : Nat) => D.int (i + k)) (l.map fun (k : Nat) => V.int (i + k)) := by
    intro l
    induction l with
    | nil => simp [FL]
    | cons k l ih =>
      simp only [List.map_cons, FL]
      exact ⟨_, _, rfl, by simp only [F], ih⟩
  exact key _
theorem me_lrg2 (hc : X.calm = true) {e e2 : Expr} (hg : Gl X "list") (hm : X.mg "list" = none) (hg2 : Gl X "range") (hm2 : X.mg "range" = none) (ha : PE X e (tM (ct X xd xn) wx ma)) (hb : PE X e2 (tM (ct X xd xn) wx mb))
    (na : starEach [.Call (.Name "range" p) [e, e2] [] pos] X.env = (false, eval (.Call (.Name "range" p) [e, e2] [] pos) X.env) :: starEach [] X.env := by rfl)
    (na2 : starEach [e, e2] X.env = (false, eval e X.env) :: starEach [e2] X.env := by rfl) (nb : starEach [e2] X.env = (false, eval e2 X.env) :: starEach [] X.env := by rfl) (hp : (backTo pos (starEach [e2] X.env)).any (·.1) = false := by rfl) :
    PE X (.Call (.Name "list" p1) [.Call (.Name "range" p) [e, e2] [] pos] [] p2) (tM (ct X xd xn) wx (lrg2M ma mb)) :=
  PEimp (pe_listRg hc hg hm (prg_2 hg2 hm2 ha hb na2 nb hp) na) fun σ H Q h => by
    obtain ⟨S, G, td, tv, tw, env, W, hC, R, q⟩ := h
    rcases bindE q with ⟨d, e1, h1, q⟩ | ⟨y, e1, h1, q⟩
    · refine tM_mk hC R (.inl ⟨d, e1, h1, fun v tw1 G1 W1 H1 R1 => ?_⟩)
      rcases bindE q with ⟨k, e2, h2, q⟩ | ⟨y, e2, h2, q⟩
      · refine tM_mk hC R1 (.inl ⟨k, e2, h2, fun ky tw2 G2 W2 H2 R2 => ?_⟩)
        unfold lrg2 at q
        split at q
        · rename_i i hi
          split at q
          · rename_i j hj
            unfold lrg at q
            split at q
            · rename_i hz
              simp only [Bool.and_eq_true, decide_eq_true_eq] at hz
              obtain ⟨w3, o3⟩ := R2.look hj
              have := o3.int
              subst this
              obtain ⟨_, tw4, _, R4⟩ := R2.pop
              obtain ⟨w4, o4⟩ := R4.look hi
              have := o4.int
              subst this
              obtain ⟨_, tw5, _, R5⟩ := R4.pop
              obtain ⟨s1, s2⟩ := small62_ok hz.1.1
              obtain ⟨s3, s4⟩ := small62_ok hz.1.2
              refine ⟨i, j, rfl, rfl, ⟨s1, s2, s3, s4, hz.2⟩, fun r hr => q _ _ _ _ _ (R5.newLst hr (rangeD_F _ _))⟩
            · exact q.elim
          · exact q.elim
        · exact q.elim
      · exact tM_mk hC R1 (.inr ⟨y, e2, h2, q.pop⟩)
    · exact tM_mk hC R (.inr ⟨y, e1, h1, q⟩)
theorem me_lrg1 (hc : X.calm = true) {e : Expr} (hg : Gl X "list") (hm : X.mg "list" = none) (hg2 : Gl X "range") (hm2 : X.mg "range" = none) (ha : PE X e (tM (ct X xd xn) wx ma))
    (na : starEach [.Call (.Name "range" p) [e] [] pos] X.env = (false, eval (.Call (.Name "range" p) [e] [] pos) X.env) :: starEach [] X.env := by rfl)
    (na2 : starEach [e] X.env = (false, eval e X.env) :: starEach [] X.env := by rfl) :
    PE X (.Call (.Name "list" p1) [.Call (.Name "range" p) [e] [] pos] [] p2) (tM (ct X xd xn) wx (lrg1M ma)) :=
  PEimp (pe_listRg hc hg hm (prg_1 hg2 hm2 ha na2) na) fun σ H Q h => by
    obtain ⟨S, G, td, tv, tw, env, W, hC, R, q⟩ := h
    rcases bindE q with ⟨d, e1, h1, q⟩ | ⟨y, e1, h1, q⟩
    · refine tM_mk hC R (.inl ⟨d, e1, h1, fun v tw1 G1 W1 H1 R1 => ?_⟩)
      unfold lrg1 at q
      split at q
      · rename_i j hj
        unfold lrg at q
        split at q
        · rename_i hz
          simp only [Bool.and_eq_true, decide_eq_true_eq] at hz
          obtain ⟨w4, o4⟩ := R1.look hj
          have := o4.int
          subst this
          obtain ⟨_, tw5, _, R5⟩ := R1.pop
          obtain ⟨s1, s2⟩ := small62_ok hz.1.1
          obtain ⟨s3, s4⟩ := small62_ok hz.1.2
          refine ⟨j, rfl, ⟨s1, s2, s3, s4, hz.2⟩, fun r hr => q _ _ _ _ _ (R5.newLst hr (rangeD_F _ _))⟩
        · exact q.elim
      · exact q.elim
    · exact tM_mk hC R (.inr ⟨y, e1, h1, q⟩)
end
end Mx
namespace Mx
open PySem PySem.Spec L2 PyProof.Rows
/-- sorted(x): a dict's names, a list of texts, of ints -/
def sortedA (d : D) : Option D := match sortedD d with
  | some z => some z
  | none => sortedI d
theorem b_sortedA {X : Cx} (hc : X.calm = true) : B1 X (.builtin "sorted") sortedA := fun S G td tv tw env σ W H x z v w1 Q hK R o h q => by
  unfold sortedA at h
  split at h
  · cases h
    exact b_sorted hc S G td tv tw env σ W H x _ v w1 Q hK R o (by assumption) q
  · exact b_sortedI S G td tv tw env σ W H x _ v w1 Q hK R o h q
end Mx
set_option Elab.async false
set_option linter.all false
set_option maxRecDepth 100000
set_option maxHeartbeats 1000000
/-! Mx21: lists that own changing things: [a, b], t.append(a list), for x in t: x.append(a constant) -/
namespace Mx
open PySem PySem.Spec L2 PyProof.Rows
def noRf : D → Bool
  | .rf _ => false
  | _ => true
theorem Tm.to_O {K : PySem.W.Frag} {G H : Hp} {σ : L2.St} {d : D} {v : V} {w : List Addr} (h : Tm K G H σ d v w) (n : noRf d = true) : O K G H d v w := by
  cases d <;> first | exact h | exact nomatch n
theorem Tl.split2 {K : PySem.W.Frag} {G H : Hp} {σ : L2.St} : ∀ {rs : List D} {us : List V} {td : List D} {tv : List V} {tw : List (List Addr)}, rs.length = us.length → Tl K G H σ (rs ++ td) (us ++ tv) tw → ∃ w1 w2, tw = w1 ++ w2 ∧ Tl K G H σ rs us w1 ∧ Tl K G H σ td tv w2
  | [], [], td, tv, tw, _, h => ⟨[], tw, rfl, by simp [Tl], h⟩
  | [], _ :: _, _, _, _, l, _ => by simp at l
  | _ :: _, [], _, _, _, l, _ => by simp at l
  | r :: rs, u :: us, td, tv, tw, l, h => by
    simp only [List.cons_append, Tl] at h
    obtain ⟨v, vs, w, xs, e1, rfl, h1, h2⟩ := h
    cases e1
    obtain ⟨w1, w2, rfl, a, b⟩ := Tl.split2 (by simpa using l) h2
    refine ⟨w :: w1, w2, rfl, ?_, b⟩
    simp only [Tl]
    exact ⟨_, _, _, _, rfl, rfl, h1, a⟩
theorem Tl.rev {K : PySem.W.Frag} {G H : Hp} {σ : L2.St} : ∀ {rs : List D} {us : List V} {w : List (List Addr)}, rs.all noRf = true → Tl K G H σ rs us w → OL K G H rs.reverse us.reverse w.reverse.flatten
  | [], us, w, _, h => by
    simp only [Tl] at h
    obtain ⟨rfl, rfl⟩ := h
    simp [OL]
  | r :: rs, us, w, n, h => by
    simp only [Tl] at h
    obtain ⟨v, vs, w0, xs, rfl, rfl, h1, h2⟩ := h
    simp only [List.all_cons, Bool.and_eq_true] at n
    simp only [List.reverse_cons, List.flatten_append, List.flatten_cons, List.flatten_nil, List.append_nil]
    exact (Tl.rev n.2 h2).append (OL.one (h1.to_O n.1))
section
variable {S : Sc} {G H : Hp} {td : List D} {tv : List V} {tw : List (List Addr)} {env : Env} {σ : L2.St} {W : List (List Addr)}
/-- a new list of things that it owns -/
theorem RR.newOwn {ds : List D} {vs : List V} (R : RR S G (ds.reverse ++ td) (vs.reverse ++ tv) tw env σ W H) (hl : vs.length = ds.length) (n : ds.all noRf = true) {p : Addr} (h : H p = none) :
    ∃ tw', RR S G (.own ds :: td) (.ref p :: tv) tw' env σ W (upd H p (.lst vs)) := by
  have R1 := R.grow (H' := upd H p (.lst vs)) (Ext.new h)
  have np := R.notin h
  obtain ⟨w1, w2, rfl, a, b⟩ := Tl.split2 (by simp [hl]) R1.tl
  have o := Tl.rev (by simpa using n) a
  rw [List.reverse_reverse, List.reverse_reverse] at o
  have pm : ((p :: w1.reverse.flatten) ++ w2.flatten ++ W.flatten).Perm (p :: ((w1 ++ w2).flatten ++ W.flatten)) := by
    simp only [List.flatten_append, List.cons_append, List.append_assoc]
    refine List.Perm.cons _ (List.Perm.append_right _ ?_)
    exact (List.reverse_perm w1).flatten
  refine ⟨(p :: w1.reverse.flatten) :: w2, ?_, R1.sl, ?_, fun x hx => ?_, fun x hx => ?_, R1.sub, R1.base, R1.frame, R1.dom, R1.gdom, R1.gx⟩
  · simp only [Tl]
    refine ⟨_, tv, _, w2, rfl, rfl, Tm.of_O ?_, b⟩
    simp only [O]
    exact ⟨p, vs, _, rfl, rfl, upd_same, R.sub.none h, o⟩
  · simp only [List.flatten_cons]
    refine pm.nodup_iff.mpr (List.nodup_cons.mpr ⟨np, R.nd⟩)
  · simp only [List.flatten_cons] at hx
    rcases List.mem_cons.mp (pm.mem_iff.mp hx) with rfl | hx
    · exact .inl (R.fresh h)
    · exact R.own x hx
  · simp only [List.flatten_cons] at hx
    rcases List.mem_cons.mp (pm.mem_iff.mp hx) with rfl | hx
    · exact ⟨R.sub.none h, by rw [upd_same]; exact fun z => nomatch z⟩
    · exact R1.fp x hx
/-- the top's own object changes, and takes over what the second temporary owns -/
theorem RR.join {d1 d2 d' : D} {v1 v2 : V} {w1 w2 : List Addr} (R : RR S G (d1 :: d2 :: td) (v1 :: v2 :: tv) (w1 :: w2 :: tw) env σ W H) {p : Addr} {o : HO} (hp : p ∈ w1) (q : O S.K G (upd H p o) d' v1 (w1 ++ w2)) :
    RR S G (d' :: td) (v1 :: tv) ((w1 ++ w2) :: tw) env σ W (upd H p o) := by
  obtain ⟨_, _, e2, R0⟩ := R.pop
  cases e2
  obtain ⟨_, _, e2, R1⟩ := R0.pop
  cases e2
  have hn := R.nd
  simp only [List.flatten_cons, List.append_assoc] at hn
  obtain ⟨_, _, dj⟩ := List.nodup_append.mp hn
  have ef : ((w1 ++ w2) :: tw).flatten ++ W.flatten = (w1 :: w2 :: tw).flatten ++ W.flatten := by simp only [List.flatten_cons, List.append_assoc]
  have inl : p ∈ (w1 :: w2 :: tw).flatten ++ W.flatten := by
    simp only [List.flatten_cons, List.append_assoc]
    exact List.mem_append_left _ hp
  have pf := R.fp p inl
  have R2 := R1.step (G' := G) (H' := upd H p o) (Sub.refl G) (fun a u e => by
    have : a ≠ p := fun z => by rw [z, pf.1] at e; cases e
    rw [upd_ne this]; exact R.sub a u e) (fun a ha => ⟨(R1.fp a ha).1, upd_ne fun z => dj p hp a (List.mem_append_right _ ha) z.symm⟩) (fun a u e => by
      by_cases z : a = p
      · subst z; exact .inr (R.own a inl)
      · exact .inl (by rw [upd_ne z]; exact e)) (fun a e => by
      by_cases z : a = p
      · subst z; rw [upd_same]; exact fun z => nomatch z
      · rw [upd_ne z]; exact e) fun a e => .inl e
  refine ⟨?_, R2.sl, ef ▸ R.nd, ef ▸ R.own, fun a ha => ?_, R2.sub, R2.base, R2.frame, R2.dom, R2.gdom, R2.gx⟩
  · simp only [Tl]
    exact ⟨v1, tv, _, tw, rfl, rfl, Tm.of_O q, R2.tl⟩
  · rw [ef] at ha
    refine ⟨(R.fp a ha).1, ?_⟩
    by_cases z : a = p
    · subst z; rw [upd_same]; exact fun z => nomatch z
    · rw [upd_ne z]; exact (R.fp a ha).2
/-- the change of one object that a slot owns, wherever it lies -/
theorem RR.mod2 {i : Nat} {d d' : D} {P : V → Addr → HO → Prop} (R : RR S G td tv tw env σ W H) (he : env[i]? = some (some d)) (hd : ∀ j, d' ≠ .rf j)
    (h : ∀ v w, O S.K G H d v w → w.Nodup → ∃ a ho, a ∈ w ∧ P v a ho ∧ O S.K G (upd H a ho) d' v w) : ∃ v a ho, σ[i]? = some (some v) ∧ P v a ho ∧ ∃ W', RR S G td tv tw (env.set i (some d')) σ W' (upd H a ho) := by
  obtain ⟨v, w, hs, hw, ov⟩ := R.sl.get he
  obtain ⟨v2, w2, hs2, R2⟩ := R.take he
  rw [hs] at hs2
  cases hs2
  have ht := R2.tl
  simp only [Tl] at ht
  obtain ⟨_, _, w3, _, e1, e2, h1, _⟩ := ht
  cases e1
  cases e2
  have ov2 : O S.K G H d v w2 := by cases d <;> first | exact h1 | (simp only [O] at ov)
  have hn := R2.nd
  simp only [List.flatten_cons, List.append_assoc] at hn
  obtain ⟨a', ho', ha', hp', o3⟩ := h _ w2 ov2 (List.nodup_append.mp hn).1
  have R3 := R2.change ha' o3
  have hlen : i < env.length := (List.getElem?_eq_some_iff.mp he).1
  have R4 := R3.back (i := i) (by rw [List.getElem?_set_self hlen]) hs hd
  rw [List.set_set] at R4
  exact ⟨v, a', ho', hs, hp', _, R4⟩
end
/-! ### a list of things that it owns -/
def ownM (a : AM) : EM := fun env => bindR (a env) fun ds e => if ds.all noRf = true ∧ ds.length ≤ 1000 then .ok (.own ds) e else .bad
section
variable {X : Cx} {xd : Option Addr} {xn : Option Xn} {wx : WX} {p pos p1 p2 p3 apos : Pos} {e o i f : Expr} {ma mb m mo mx im : EM} {x y : Str} {ro : List Bool} {s t : Nat}
theorem me_own {C : Ct} {es : List Expr} {mr : AM} (h : PA X es (tMA C wx mr)) : PE X (.List es pos) (tM C wx (ownM mr)) :=
  PEimp (pe_lst h) fun σ H Q h => by
    obtain ⟨S, G, td, tv, tw, env, W, hC, R, q⟩ := h
    rcases bindE q with ⟨ds, e1, m1, q⟩ | ⟨x, e1, m1, q⟩
    · split at q
      · rename_i hz
        refine tMA_mk hC R (.inl ⟨ds, e1, m1, fun vs tw1 G1 W1 H1 hl1 R1 => ?_⟩)
        refine ⟨small_line (by omega), fun p hp => ?_⟩
        obtain ⟨tw2, R2⟩ := R1.newOwn hl1 hz.1 hp
        exact q _ _ _ _ _ R2
      · exact q.elim
    · exact tMA_mk hC R (.inr ⟨x, e1, m1, q⟩)
/-- t.append(e): what e is, is the list's own from here on -/
def apoM (s : Nat) (m : EM) : EM := fun env => if appM.isOwn env s = true then bindR (m env) fun x e => match e[s]? with
    | some (some (.own ds)) => if noRf x = true ∧ ds.length < 1000000 then .ok .non (e.set s (some (.own (ds ++ [x])))) else .bad
    | _ => .bad
  else .bad
theorem me_apo {pos' : Pos} (hN : X.N[s]? = some x) (hv : Vis X.env.scope x) (he : PE X e (tM (ct X xd xn) wx m)) (hd : (x == ("__debug__" : Str)) = false := by decide) (hcd : (x == ("__classdict__" : Str)) = false := by decide)
    (hbase : attributeBase (.Name x p) "append" X.env (eval (.Name x p) X.env) = eval (.Name x p) X.env := by rfl)
    (hfew : ((backTo pos (starEach [e] X.env)).all (fun x => !x.1) && (backToKw pos (keywordEach [] X.env)).all (fun x => x.1.isSome)
      && decide ([e].length + ([] : List Keyword).length + (if ([] : List Keyword).isEmpty then 0 else 1) < 30)) = true := by rfl)
    (hline : (pos'.endLine == pos.line) = true := by rfl) (hs : starEach [e] X.env = (false, eval e X.env) :: starEach [] X.env := by rfl) (hplain : (backTo pos (starEach [] X.env)).any (·.1) = false := by rfl) :
    PE X (.Call (.Attribute (.Name x p) "append" pos') [e] [] pos) (tM (ct X xd xn) wx (apoM s m)) :=
  PEimp (pe_bm F.plainAttrs_list F.slot_list_append F.type_list_append mt_append (pe_var hN hv hd hcd) (pa_cons he pa_nil hs) hbase hfew hline hs hplain) fun σ H Q h => by
  obtain ⟨S, G, td, tv, tw, env, W, hC, R, q⟩ := h
  have hK : S.K = X.K := congrArg Ct.K hC
  unfold apoM at q
  split at q
  · rename_i ht
    obtain ⟨ds9, h9⟩ := isOwn_ok ht
    obtain ⟨v0, w0, hs0, _, o0⟩ := R.sl.get h9
    simp only [O] at o0
    obtain ⟨a0, vs0, fq0, rfl, _, hl0, _⟩ := o0
    refine ⟨.ref a0, hs0, .inl ⟨rfl, vs0, .inl (.inl hl0)⟩, ?_⟩
    rcases bindE q with ⟨d, e1, h1, q⟩ | ⟨y, e1, h1, q⟩
    · refine tM_mk hC R (.inl ⟨d, e1, h1, fun v tw1 G1 W1 H1 R1 => ?_⟩)
      split at q
      · rename_i ds hds
        split at q
        · rename_i hz
          obtain ⟨v1, w1, hs1, R2⟩ := R1.take hds
          rw [hs0] at hs1
          cases hs1
          have h0 := R2.tl
          simp only [Tl] at h0
          obtain ⟨_, _, wa, xs, ea, eb, t1, _, _, wb, _, ec, ed, t2, _⟩ := h0
          cases ea
          cases ec
          subst ed
          cases eb
          have o1 : O S.K G1 H1 (.own ds) (.ref a0) w1 := t1
          have o2 := t2.to_O hz.1
          have nd2 := R2.nd
          simp only [O] at o1
          obtain ⟨a1, vs, fq, e5, rfl, q1, q2, q3⟩ := o1
          cases e5
          have npf : a0 ∉ fq ∧ a0 ∉ wb := by
            simp only [List.flatten_cons, List.append_assoc, List.cons_append] at nd2
            obtain ⟨n1, _⟩ := List.nodup_cons.mp nd2
            exact ⟨fun z => n1 (List.mem_append_left _ z), fun z => n1 (List.mem_append_right _ (List.mem_append_left _ z))⟩
          have fpd : ∀ b ∈ fq, G1 b = none ∧ upd H1 a0 (.lst (vs ++ [v])) b = H1 b := fun b hb => ⟨(OL.fp _ _ _ q3 b hb).1, upd_ne fun z => npf.1 (z ▸ hb)⟩
          have fpe : ∀ b ∈ wb, G1 b = none ∧ upd H1 a0 (.lst (vs ++ [v])) b = H1 b := fun b hb => ⟨(O.fp _ _ _ o2 b hb).1, upd_ne fun z => npf.2 (z ▸ hb)⟩
          have R3 := R2.join (d' := .own (ds ++ [d])) (p := a0) (o := .lst (vs ++ [v])) (List.mem_cons_self ..) (by
            simp only [O]
            exact ⟨a0, vs ++ [v], fq ++ wb, rfl, rfl, upd_same, q2, (OL.mono (Sub.refl _) _ _ _ fpd q3).append (OL.one (O.mono (Sub.refl _) _ _ _ fpe o2))⟩)
          have hlen : s < e1.length := (List.getElem?_eq_some_iff.mp hds).1
          have R4 := R3.back (i := s) (by rw [List.getElem?_set_self hlen]) hs0 (fun j z => by cases z)
          rw [List.set_set] at R4
          have lv := q3.length
          exact ⟨a0, vs, v, rfl, rfl, q1, by rw [sizeLine_eq]; omega, q _ _ _ _ _ (R4.push (by simp only [F]))⟩
        · exact q.elim
      · exact q.elim
    · exact tM_mk hC R (.inr ⟨y, e1, h1, q⟩)
  · exact q.elim
/-! ### for x in t: x.append(None) -/
def app1 : D → Option D
  | .own es => if fzL es = true ∧ es.length < 1000000 then some (.own (es ++ [.non])) else none
  | _ => none
def appAll : List D → Option (List D)
  | [] => some []
  | d :: ds => match app1 d with
    | some d' => (appAll ds).map (d' :: ·)
    | none => none
/-- the slot x is forgotten -/
def forAp (x t : Nat) : SM := fun env => if x = t ∨ env.length ≤ x then .bad else match env[t]? with
  | some (some (.own ds)) => match appAll ds with
    | some ds' => .nx ((env.set x none).set t (some (.own ds')))
    | none => .bad
  | _ => .bad
theorem appAll_get : ∀ {ds ds' : List D}, appAll ds = some ds' → ds'.length = ds.length ∧ ∀ (i : Nat) (d : D), ds[i]? = some d → ∃ d', app1 d = some d' ∧ ds'[i]? = some d'
  | [], ds', h => by
    simp only [appAll, Option.some.injEq] at h
    subst h
    exact ⟨rfl, fun i d e => by simp at e⟩
  | d :: ds, ds', h => by
    simp only [appAll] at h
    split at h
    · rename_i d' hd
      obtain ⟨es, h1, rfl⟩ := Option.map_eq_some_iff.mp h
      obtain ⟨l, g⟩ := appAll_get h1
      refine ⟨by simp [l], fun i x e => ?_⟩
      cases i with
      | zero =>
        cases (Option.some.inj e : d = x)
        exact ⟨d', hd, rfl⟩
      | succ i =>
        obtain ⟨z, z1, z2⟩ := g i x (by simpa using e)
        exact ⟨z, z1, by simpa using z2⟩
    · cases h
/-- item i of an owned list, and what lies around it -/
theorem OL.at {K : PySem.W.Frag} {G H : Hp} : ∀ {ds : List D} {vs : List V} {fp : List Addr} {i : Nat} {d : D}, OL K G H ds vs fp → ds[i]? = some d → ∃ u f1 f2 f3, fp = f1 ++ f2 ++ f3 ∧ vs[i]? = some u ∧ O K G H d u f2 ∧
    ∀ {H' : Hp} {d' : D}, (∀ a ∈ f1 ++ f3, H' a = H a) → O K G H' d' u f2 → OL K G H' (ds.set i d') vs fp
  | [], vs, fp, i, d, h, e => by simp at e
  | x :: ds, vs, fp, 0, d, h, e => by
    cases (Option.some.inj e : x = d)
    simp only [OL] at h
    obtain ⟨v, ws, f1, f2, rfl, rfl, h2, h3⟩ := h
    refine ⟨v, [], f1, f2, by simp, rfl, h2, fun k o => ?_⟩
    simp only [List.set_cons_zero, OL]
    exact ⟨v, ws, f1, f2, rfl, rfl, o, OL.mono (Sub.refl _) _ _ _ (fun a ha => ⟨(OL.fp _ _ _ h3 a ha).1, k a (by simpa using ha)⟩) h3⟩
  | x :: ds, vs, fp, i + 1, d, h, e => by
    simp only [OL] at h
    obtain ⟨v, ws, f1, f2, rfl, rfl, h2, h3⟩ := h
    obtain ⟨u, g1, g2, g3, rfl, hu, o, k⟩ := OL.at h3 (i := i) (d := d) (by simpa using e)
    refine ⟨u, f1 ++ g1, g2, g3, by simp, by simpa using hu, o, fun k2 o2 => ?_⟩
    simp only [List.set_cons_succ, OL]
    exact ⟨v, ws, f1, g1 ++ g2 ++ g3, rfl, rfl, O.mono (Sub.refl _) _ _ _ (fun a ha => ⟨(O.fp _ _ _ h2 a ha).1, k2 a (List.mem_append_left _ (List.mem_append_left _ ha))⟩) h2, k (fun a ha => k2 a (by
      rcases List.mem_append.mp ha with z | z
      · exact List.mem_append_left _ (List.mem_append_right _ z)
      · exact List.mem_append_right _ z)) o2⟩
theorem ms_forAp {kk : Nat} {bp ap cp kp ip tp epos : Pos} (hxt : x ≠ y) (hp : PassesOwn (model X.prog X.w) X.A X.env X.xe) (hc : X.calm = true) (hNd : X.N.Nodup) (hN : X.N[s]? = some x) (hN2 : X.N[t]? = some y) (hx : Loc X.env.scope x) (hv : Vis X.env.scope x) (hv2 : Vis X.env.scope y)
    (hf : X.fn x = true ∨ X.env.scope.names.lookup x = some .local := by first | exact .inl rfl | exact .inr rfl | assumption) (hr : (ro[s]?).getD false = false := by rfl)
    (hd : (x == ("__debug__" : Str)) = false := by decide) (hcd : (x == ("__classdict__" : Str)) = false := by decide) (hd2 : (y == ("__debug__" : Str)) = false := by decide) (hcd2 : (y == ("__classdict__" : Str)) = false := by decide)
    (hbase : attributeBase (.Name x bp) "append" X.env (eval (.Name x bp) X.env) = eval (.Name x bp) X.env := by rfl)
    (hfew : ((backTo cp (starEach [.Constant .none kk kp] X.env)).all (fun x => !x.1) && (backToKw cp (keywordEach [] X.env)).all (fun x => x.1.isSome)
      && decide ([Expr.Constant .none kk kp].length + ([] : List Keyword).length + (if ([] : List Keyword).isEmpty then 0 else 1) < 30)) = true := by rfl)
    (hline : (ap.endLine == cp.line) = true := by rfl) (hs : starEach [.Constant .none kk kp] X.env = (false, eval (.Constant .none kk kp) X.env) :: starEach [] X.env := by rfl) (hplain : (backTo cp (starEach [] X.env)).any (·.1) = false := by rfl)
    (hsw : swapsWith (.Call (.Attribute (.Name x bp) "append" ap) [.Constant .none kk kp] [] cp) none epos.line X.env = pure false := by rfl)
    (hfs : ∀ z, foldedSetIterable (.Name y ip) X.env z = pure z := by intro _; rfl) :
    PS X (.For (.Name x tp) (.Name y ip) [.Expr (.Call (.Attribute (.Name x bp) "append" ap) [.Constant .none kk kp] [] cp) epos] [] pos) (tMS (ct X xd xn) wx ro (forAp s t)) :=
  PSimp (ps_for hp hc (pi_seq (pe_var hN2 hv2 hd2 hcd2)) (pg_name hNd hN hx hf) (pss_one (ps_expr (pe_bm F.plainAttrs_list F.slot_list_append F.type_list_append mt_append (pe_var hN hv hd hcd) (pa_cons pe_non pa_nil hs) hbase hfew hline hs hplain) hsw)) hfs) fun D' σ H h => by
  obtain ⟨S, G, td, tv, tw, env, W, hC, nr, R, q⟩ := h
  have hK : S.K = X.K := congrArg Ct.K hC
  unfold forAp at q
  split at q
  · exact q.elim
  rename_i hor
  have hst : s ≠ t := fun z => hor (.inl z)
  have hsl : s < env.length := Nat.not_le.mp fun z => hor (.inr z)
  split at q
  · rename_i ds hds
    split at q
    · rename_i ds' hap
      obtain ⟨ln, gt⟩ := appAll_get hap
      obtain ⟨v0, w0, hs0, _, o0⟩ := R.sl.get hds
      simp only [O] at o0
      obtain ⟨a0, vs0, fq0, rfl, _, hl0, _, ol0⟩ := o0
      have lv0 := ol0.length
      refine ⟨.ref a0, hs0, a0, rfl, .inl ⟨vs0, .inl (.inl hl0), ?_⟩⟩
      have hts : t < env.length := (List.getElem?_eq_some_iff.mp hds).1
      -- the list with the first i items done
      refine ⟨fun i m σ' H' => m = ds.length - i ∧ i ≤ ds.length ∧ σ'[t]? = some (some (.ref a0)) ∧ H' a0 = some (.lst vs0) ∧ ∃ (tw' : List (List Addr)) (W' : List (List Addr)), RR S G td tv tw' ((env.set s none).set t (some (.own (ds'.take i ++ ds.drop i)))) σ' W' H' ∧ Keep ro σ σ', ⟨ds.length, by simp, by omega, hs0, hl0, tw, W.set s [], ?_, Keep.refl⟩, ?_⟩
      · have R1 := R.kill s none (fun y z => by cases z)
        have e : (env.set s none).set t (some (.own ds)) = env.set s none := by
          refine List.ext_getElem? fun j => ?_
          by_cases hj : t = j
          · subst hj
            rw [List.getElem?_set_self (by simpa using hts), List.getElem?_set_ne hst, hds]
          · rw [List.getElem?_set_ne hj]
        have R2 : RR S G td tv tw (env.set s none) σ (W.set s []) H := R1
        rw [← e] at R2
        simpa using R2
      · rintro i m σ' H' ⟨rfl, hle, hs1, hl1, tw', W', R', kp⟩
        have het : ((env.set s none).set t (some (.own (ds'.take i ++ ds.drop i))))[t]? = some (some (.own (ds'.take i ++ ds.drop i))) := by rw [List.getElem?_set_self (by simpa using hts)]
        by_cases hlt : i < ds.length
        · have hvs : i < vs0.length := by omega
          refine .inr ⟨⟨vs0, vs0[i], .inl (.inl hl1), List.getElem?_eq_getElem hvs⟩, fun σ7 H7 => σ7[t]? = some (some (.ref a0)) ∧ H7 a0 = some (.lst vs0) ∧ ∃ (tw' : List (List Addr)) (W' : List (List Addr)), RR S G td tv tw' ((env.set s none).set t (some (.own (ds'.take (i + 1) ++ ds.drop (i + 1))))) σ7 W' H7 ∧ Keep ro σ σ7, fun σ7 H7 n7 => ⟨ds.length - (i + 1), by omega, rfl, by omega, n7⟩, fun x2 H2 y2 => ?_⟩
          obtain ⟨eh, y2⟩ := y2
          subst eh
          have hx2 := y2 vs0 (.inl (.inl hl1))
          -- the slot of the loop's name takes the item
          have R2 := R'.kill s (some (some x2)) (fun y z => nr s)
          have es : ((env.set s none).set t (some (.own (ds'.take i ++ ds.drop i)))).set s none = (env.set s none).set t (some (.own (ds'.take i ++ ds.drop i))) := by
            rw [List.set_comm _ _ (Ne.symm hst), List.set_set]
          rw [es] at R2
          have hss : s < σ'.length := by
            rw [← R'.sl.len.1]
            simp only [List.length_set]
            exact hsl
          have hdi : ds[i]? = some ds[i] := List.getElem?_eq_getElem hlt
          obtain ⟨d', hd1, hd2⟩ := gt i _ hdi
          generalize ds[i] = dd at hdi hd1
          have hL : (ds'.take i ++ ds.drop i)[i]? = some dd := by
            have l1 : (ds'.take i).length = i := by rw [List.length_take]; omega
            rw [List.getElem?_append_right (by omega), l1, Nat.sub_self, List.getElem?_drop, Nat.add_zero, hdi]
          obtain ⟨v1, a1, ho, hv1, ⟨a2, vs, ws, rfl, p1, p2, p3, p4, rfl, p5⟩, W3, R3⟩ := R2.mod2 (d' := .own ((ds'.take i ++ ds.drop i).set i d')) (P := fun v a ho => ∃ a1 vs ws, v = .ref a1 ∧ H2 a1 = some (.lst vs) ∧ vs[i]? = some (.ref a) ∧ H2 a = some (.lst ws) ∧ ws.length < sizeLine ∧ ho = .lst (ws ++ [.non]) ∧ a ≠ a1) het (fun j z => by cases z) (fun v w ov nd => by
            simp only [O] at ov
            obtain ⟨a1, vs, fq, rfl, rfl, q1, q2, q3⟩ := ov
            obtain ⟨u, f1, f2, f3, rfl, hu, ou, k⟩ := OL.at q3 hL
            cases dd <;> simp only [app1, reduceCtorEq] at hd1
            rename_i es
            split at hd1
            · rename_i hz
              cases hd1
              simp only [O] at ou
              obtain ⟨b, ws, fr, rfl, rfl, u1, u2, u3⟩ := ou
              obtain ⟨rfl, fl⟩ := OL.to_FL hz.1 u3
              have hb1 : b ≠ a1 := fun z => by
                obtain ⟨n1, _⟩ := List.nodup_cons.mp nd
                exact n1 (by rw [← z]; simp)
              have hb2 : ∀ c ∈ f1 ++ f3, c ≠ b := fun c hc z => by
                obtain ⟨_, n2⟩ := List.nodup_cons.mp nd
                rw [z] at hc
                have pm : (f1 ++ [b] ++ f3).Perm (b :: (f1 ++ f3)) := by
                  rw [List.append_assoc]
                  exact List.perm_middle
                exact (List.nodup_cons.mp (pm.nodup_iff.mp n2)).1 hc
              refine ⟨b, .lst (ws ++ [.non]), by simp, ⟨a1, vs, ws, rfl, q1, hu, u1, by rw [← fl.length, sizeLine_eq]; omega, rfl, hb1⟩, ?_⟩
              simp only [O]
              refine ⟨a1, vs, f1 ++ [b] ++ f3, rfl, rfl, by rw [upd_ne (Ne.symm hb1)]; exact q1, q2, k (fun c hc => upd_ne (hb2 c hc)) ?_⟩
              simp only [O]
              exact ⟨b, _, [], rfl, rfl, upd_same, u2, OL.of_FL (fl.append (by simp only [FL]; exact ⟨_, [], rfl, by simp only [F], rfl⟩))⟩
            · cases hd1)
          have e7 : (σ'.set s (some x2))[t]? = some (some (.ref a0)) := by rw [List.getElem?_set_ne hst]; exact hs1
          have hv1 : (σ'.set s (some x2))[t]? = some (some (.ref a2)) := hv1
          rw [e7] at hv1
          cases hv1
          rw [hl1] at p1
          cases p1
          rw [hx2] at p2
          cases p2
          have el : (ds'.take i ++ ds.drop i).set i d' = ds'.take (i + 1) ++ ds.drop (i + 1) := by
            have l1 : (ds'.take i).length = i := by rw [List.length_take]; omega
            rw [List.set_append_right _ _ (by omega), l1, Nat.sub_self, List.take_add_one, hd2, List.append_assoc]
            congr 1
            cases q : ds.drop i with
            | nil => exact absurd (congrArg List.length q) (by rw [List.length_drop]; simp; omega)
            | cons z zs =>
              have e2 : ds.drop (i + 1) = zs := by
                rw [← List.drop_drop, q]
                rfl
              rw [e2]
              rfl
          have R4 := R3
          rw [List.set_set, el] at R4
          exact ⟨.ref a1, by rw [List.getElem?_set_self hss], .inl ⟨rfl, ws, .inl (.inl p3)⟩, a1, ws, .non, rfl, rfl, p3, p4, e7, by rw [upd_ne (Ne.symm p5)]; exact hl1, _, _, R4, kp.trans (Keep.set hr)⟩
        · have hi0 : i = ds.length := by omega
          subst hi0
          refine .inl ⟨⟨vs0, .inl (.inl hl1), by omega⟩, ?_⟩
          have e : ds'.take ds.length ++ ds.drop ds.length = ds' := by
            rw [List.drop_length, List.append_nil, ← ln, List.take_length]
          rw [e] at R'
          exact q _ _ _ _ _ R' kp
    · exact q.elim
  · exact q.elim
end
end Mx
set_option Elab.async false
set_option linter.all false
set_option maxRecDepth 100000
set_option maxHeartbeats 2000000
/-! Mh: the head: facts that any test of the fragment tells; the law's end, nothing being shown by repr -/
namespace Mx
open PySem PySem.Spec L2 PyProof.Rows
/-! ### facts -/
abbrev FB : Type := PySem.W.Frag → Bool
abbrev AlX : Type := Bool × List He.FnW
def obsX (fb : List FB) (fn : List He.DefD) (K : PySem.W.Frag) : AlX := ((fb.all fun f => f K) && fn.all fun d => d.ok K, fn.map fun d => He.fnW K d.at_)
def valX (fn : List He.DefD) : AlX := (true, fn.map He.DefD.val)
def SaysX (fb : List FB) (fn : List He.DefD) (K : PySem.W.Frag) : Prop := obsX fb fn K = valX fn
def obsXG (n : Nat) (fb : List FB) (fn : List He.DefD) (g : Addr → Option Obj) : AlX := obsX fb fn (He.frG g (cStatics :: He.asD g n))
def hookX (n : Nat) (fb : List FB) (fn : List He.DefD) : PySem.W.Hook where
  α := AlX
  obs := fun s => obsXG n fb fn s.heap.get?
  val := fun _ => valX fn
  says := fun _ h => ∃ K : PySem.W.Frag, K.In h ∧ SaysX fb fn K
  of := fun _ _ e => ⟨_, He.frG_in, e⟩
  keeps := fun _ _ _ ⟨K, hK, c⟩ k => ⟨K, PySem.W.Frag.In.keeps hK k, c⟩
theorem obsXG_eq {n : Nat} {fb : List FB} {fn : List He.DefD} {g : Addr → Option Obj} {s : Shared} (h : ∀ a, g a = s.heap.get? a) : obsXG n fb fn g = (hookX n fb fn).obs s := by
  have : g = s.heap.get? := funext h
  rw [this]
  rfl
section
variable {fb : List FB} {fn : List He.DefD} {K : PySem.W.Frag}
theorem SaysX.fact (c : SaysX fb fn K) (i : Nat) {f : FB} (h : fb[i]? = some f := by rfl) : f K = true := by
  have e : ((fb.all fun f => f K) && fn.all fun d => d.ok K) = true := congrArg (fun z : AlX => z.1) c
  exact List.all_eq_true.mp (Bool.and_eq_true_iff.mp e).1 f (List.mem_of_getElem? h)
theorem SaysX.def_ (c : SaysX fb fn K) (i : Nat) {d : He.DefD} (h : fn[i]? = some d := by rfl) : ∃ fd, FunD K d.name d.qual d.params d.body d.scope (d.dvs K) (d.kws K) (He.fAd K d.at_) fd := by
  have e : ((fb.all fun f => f K) && fn.all fun d => d.ok K) = true := congrArg (fun z : AlX => z.1) c
  have e1 : fn.map (fun d => He.fnW K d.at_) = fn.map He.DefD.val := congrArg (fun z : AlX => z.2) c
  have e2 : (fn.map fun d => He.fnW K d.at_)[i]? = (fn.map He.DefD.val)[i]? := by rw [e1]
  rw [List.getElem?_map, List.getElem?_map, h] at e2
  exact He.DefD.funD (Option.some.inj e2) (List.all_eq_true.mp (Bool.and_eq_true_iff.mp e).2 d (List.mem_of_getElem? h))
end
/-- a number that a class holds -/
def clsInt (c f : Str) (i : Int) : FB := fun K => PySem.W.readsIn K (He.ga K c) (.type "type") && (decide (PySem.W.specialIn K (.ref (He.ga K c)) "__getattribute__" = some (some (.builtin "type.__getattribute__"))) && (match PySem.W.findCls K (.ref (He.ga K c)) (.type "type") f with
  | some (.val (.int j _)) => decide (j = i)
  | _ => false))
theorem clsInt_ok {K : PySem.W.Frag} {c f : Str} {i : Int} (h : clsInt c f i K = true) : ClX.CRead K (He.ga K c) (.type "type") ∧ ∃ u, ClX.CVal K (He.ga K c) (.type "type") f (.int i) u := by
  unfold clsInt at h
  rw [Bool.and_eq_true, Bool.and_eq_true] at h
  obtain ⟨h1, h2, h3⟩ := h
  refine ⟨⟨h1, of_decide_eq_true h2⟩, ?_⟩
  split at h3
  · rename_i j t e
    have := of_decide_eq_true h3
    subst this
    exact ⟨_, ⟨e, ⟨t, rfl⟩⟩⟩
  · cases h3
/-- instances of a class are told to be such -/
def clsIs (c : Str) : FB := fun K => (He.Fa.cls c).ok K && (decide (PySem.W.findIn K (.ref (He.ga K c)) "__class__" = some (some (.builtin "object.__class__"))) && (decide (PySem.W.specialIn K (.builtin "object.__class__") "__get__" = some (some (.builtin "getset_descriptor.__get__"))) &&
  (decide (PySem.W.takesIn K (.builtin "object.__class__") = some true) && (decide (PySem.W.mroIn K (He.ga K c) (.type "object") = some true) && decide (PySem.W.kitOne K (.ref (He.ga K c)) (.ref (He.ga K c)) = some true)))))
theorem clsIs_ok {K : PySem.W.Frag} {c : Str} (h : clsIs c K = true) : C8.InsC K (He.ga K c) := by
  unfold clsIs at h
  simp only [Bool.and_eq_true] at h
  obtain ⟨h1, h2, h3, h4, h5, h6⟩ := h
  exact ⟨He.cls_ok h1, of_decide_eq_true h2, of_decide_eq_true h3, of_decide_eq_true h4, of_decide_eq_true h5, of_decide_eq_true h6⟩
/-! ### the law's end -/
theorem hid_all {P : Program} {w : World} {K : PySem.W.Frag} {mg mb : Str → Option Value} {a : Addr} {t1 : Shared} {us : List Value} {H : Hp} (KX : K.In t1.heap) (n1 : t1.heap.Ns mainGlobals mg) (n2 : t1.heap.Ns builtinsNs mb) (nb : ∀ x : Str, x ≠ "__name__" → mb x = bootBuiltins x) (lim : t1.heap.NoLimit) (ng : t1.gens = #[])
    (at_ : t1.heap.get? a = some { cls := .type "list", data := .seq us.toArray }) (ok : HOk P w H t1.heap) (only : ∀ b, H b ≠ none → b = a) (nk : H a ≠ none → K.lookup a = none) :
    K.In (hidT t1.heap H) ∧ (hidT t1.heap H).Ns mainGlobals mg ∧ L2.Env0 P w K mg (hidT t1.heap H) callerA [] t1 H := by
  have low : ∀ {b : Addr} {o : Obj}, t1.heap.get? b = some o → H b = none → (hidT t1.heap H).get? b = some o := fun z n => hidT_get z n
  have same : ∀ {b : Addr}, H b ≠ none → b = a ∧ K.lookup b = none := fun {b} z => by
    have e := only b z
    subst e
    exact ⟨rfl, nk z⟩
  have dn : ∀ {b : Addr} {o : Obj} {es : Array DictEntry} {ep : Nat}, t1.heap.get? b = some o → o.data = .dict es ep → H b = none := fun {b o es ep} z d => by
    cases q : H b with
    | none => rfl
    | some u =>
      have e := (same (b := b) (by rw [q]; exact fun z => nomatch z)).1
      subst e
      rw [at_] at z
      cases z
      exact nomatch (show Data.seq us.toArray _ = Data.dict es ep from d)
  have ns : ∀ {b : Addr} {m : Str → Option Value}, t1.heap.Ns b m → (hidT t1.heap H).Ns b m := fun {b m} ⟨o, es, ep, z, d, r⟩ => ⟨o, es, ep, low z (dn z d), d, r⟩
  have KB : K.In (hidT t1.heap H) := fun b o z => low (KX b o z) (by
    cases q : H b with
    | none => rfl
    | some u =>
      have e := (same (b := b) (by rw [q]; exact fun z => nomatch z)).2
      rw [e] at z
      cases z)
  obtain ⟨mc, l1, l2⟩ := lim
  exact ⟨KB, ns n1, ⟨rfl, ⟨KB, ns n1, ⟨mb, ns n2, nb⟩, ⟨mc, ns l1, l2⟩⟩, fun b o z => of_hidT z, Nat.le_of_eq (hidT_size _ _), trivial, fun b z => (nomatch z), ok, .of_eq ng⟩⟩
theorem law_callG {P : Program} {w : World} {K : PySem.W.Frag} {mg mb : Str → Option Value} {k : Nat} {fa a : Addr} {fd : FuncData} {x : Str} {sp : Sp} {t1 : Shared} {us : List Value} {is : List Int}
    (KX : K.In t1.heap) (n1 : t1.heap.Ns mainGlobals mg) (n2 : t1.heap.Ns builtinsNs mb) (nb : ∀ x : Str, x ≠ "__name__" → mb x = bootBuiltins x) (lim : t1.heap.NoLimit) (ng : t1.gens = #[])
    (at_ : t1.heap.get? a = some { cls := .type "list", data := .seq us.toArray }) (hi : IntsAre us is) (hl : is.length ≤ sizeLine) (room : Room k callerA)
    (F : ∀ base : Heap, K.In base → base.Ns mainGlobals mg → FnOg true P w K mg base k fa fd [x] sp) (bd : ∀ (s : Shared) (u : Value), BindsTo s fd ⟨[u], []⟩ [(x, u)])
    (wish : ∀ H : Hp, Only H → SqL K H a (is.map V.int) → sp [.ref a] H (fun v _ => v = .bl true) fun _ _ _ => False) (noX : ∀ H e s', L2.CX P w [] H t1 (fun _ _ _ => False) e s' → False) :
    codeAny (model P w) callerA (.call (.ref fa) ⟨[.ref a], []⟩) (fun r s' => r = .ok (.ret (.bool true)) ∧ OldK t1.heap s'.heap ∧ s'.os = t1.os ∧ AllBare s'.gens) t1 := by
  have vals := vals_ints hi
  have len := hi.length
  have go : ∀ H : Hp, Only H → SqL K H a (is.map V.int) → HOk P w H t1.heap → (∀ b, H b ≠ none → b = a) → (H a ≠ none → K.lookup a = none) →
      codeAny (model P w) callerA (.call (.ref fa) ⟨[.ref a], []⟩) (fun r s' => r = .ok (.ret (.bool true)) ∧ OldK t1.heap s'.heap ∧ s'.os = t1.os ∧ AllBare s'.gens) t1 := by
    intro H hO hS ok only nk
    obtain ⟨KB, nB, env⟩ := hid_all (P := P) (w := w) KX n1 n2 nb lim ng at_ ok only nk
    have run := (F _ KB nB).run callerA [] t1 H ⟨[.ref a], []⟩ [.ref a] [.ref a] _ _ room (fun _ => rfl) env (bd t1 (.ref a)) (.cons rfl .nil) (wish H hO hS)
    refine codeAny_mono run fun r s' h => ?_
    match r, h with
    | .error e, h => exact (noX H e s' h).elim
    | .ok .next, h => exact False.elim h
    | .ok .brk, h => exact False.elim h
    | .ok .cont, h => exact False.elim h
    | .ok (.ret u), h =>
      obtain ⟨v, H', os, bare, un, ok', rv, q⟩ := h
      have q : v = .bl true := q
      subst q
      have eu : u = Value.bool true := rv
      subst eu
      refine ⟨rfl, OldK.of_keep fun b o z => ?_, os, bare⟩
      rcases hO b with n | ⟨ob, xs, z2⟩
      · exact un.keep b o z n (fun y => nomatch y) (by simp)
      · obtain ⟨p1, _⟩ := ok b _ z2
        obtain ⟨p2, _⟩ := ok' b _ (un.frzs b ob _ z2)
        rw [z] at p1
        cases p1
        exact p2
  cases hk : K.lookup a with
  | some o =>
    have z := KX a o hk
    rw [at_] at z
    cases z
    have sq : SqL K (fun _ => none) a (is.map V.int) := .inr ⟨_, us.toArray, _, hk, rfl, rfl, rfl, by rw [List.size_toArray, len]; exact hl, by simpa using vals⟩
    exact go (fun _ => none) (fun _ => .inl rfl) sq (fun b u z => nomatch (show (none : Option HO) = some u from z)) (fun b z => absurd rfl z) fun z => absurd rfl z
  | none =>
    refine go (fun b => if b = a then some (.frz { cls := .type "list", data := .seq us.toArray } (.lst (is.map V.int))) else none) (fun b => ?_) (.inl (.inr ⟨_, if_pos rfl⟩)) (fun b u z => ?_) (fun b z => ?_) fun _ => hk
    · by_cases q : b = a
      · exact .inr ⟨_, _, if_pos q⟩
      · exact .inl (if_neg q)
    · by_cases q : b = a
      · have y := (if_pos q).symm.trans z
        cases y
        subst q
        exact ⟨at_, by rw [List.length_map]; exact hl, us, _, vals, at_⟩
      · have y := (if_neg q).symm.trans z
        cases y
    · by_cases q : b = a
      · exact q
      · exact absurd (if_neg q) z
theorem walk_ofX {l : PySem.W.OpenLaw} {n k : Nat} {q : Program} {loose : List Str} {XP : (Str → Option Value) → Heap → Prop} {YP : World → Heap → Prop} {d : DefRec} {x : Str}
    (hn : l.most = some n) (hn2 : n ≤ sizeLine) (hdf : d.params.defaults = []) (room : Room k callerA)
    (F : ∀ (w : World) (mg : Str → Option Value) (fa : Addr) (h : Heap), YP w h → h.Ns mainGlobals mg → mg d.name = some (.ref fa) →
      ∃ (K : PySem.W.Frag) (fd : FuncData) (sp : Sp), K.In h ∧ (∀ (s : Shared) (u : Value), BindsTo s fd ⟨[u], []⟩ [(x, u)]) ∧
        (∀ (H : Hp) (a : Addr) (is : List Int), is.length ≤ n → Only H → SqL K H a (is.map V.int) → sp [.ref a] H (fun v _ => v = .bl true) fun _ _ _ => False) ∧
        ∀ base : Heap, K.In base → base.Ns mainGlobals mg → FnOg true l.prog w K mg base k fa fd [x] sp)
    (noX : ∀ (w : World) (H : Hp) (s : Shared) (e : Value) (s' : Shared), L2.CX l.prog w [] H s (fun _ _ _ => False) e s' → False) :
    PySem.W.WalkO q loose XP YP l.row.toRowW d [] (fun f vs => PySem.call f vs) := by
  refine Att.attach_call hn hdf fun w t0 t1 mg mb fa o pm cd doc a us is G Y ho hd hcd hmg at_ hi hlen ng => ?_
  obtain ⟨K, fd, sp, KX, bd, wish, HF⟩ := F w mg fa _ Y G.T.g hmg
  exact law_callG KX G.T.g G.T.b G.T.builtins G.T.nolimit ng at_ hi (Nat.le_trans hlen hn2) room HF bd (fun H hO hS => wish H a is hlen hO hS) fun H e s' => noX w H t1 e s'
theorem FnOg.up {gd : Bool} {P : Program} {w : World} {K : PySem.W.Frag} {mg : Str → Option Value} {base : Heap} {k : Nat} {f : Addr} {fd : FuncData} {ps : List Str} {sp : Sp} (F : FnOg gd P w K mg base k f fd ps sp) : FnOg true P w K mg base k f fd ps sp :=
  ⟨F.len, fun A outer s H args us vs Q E hr hg => F.run A outer s H args us vs Q E hr fun _ => hg rfl⟩
/-- the wish of a law's def by its mirror: a list of whole numbers, True -/
theorem wish_of {K : PySem.W.Frag} {m : FM} {H : Hp} {a : Addr} {is : List Int} (hO : Only H) (sq : SqL K H a (is.map V.int)) (h : m [.scr (is.map .int)] = .ok (.bl true) [.scr (is.map .int)]) : spM K 1 m [.ref a] H (fun v _ => v = .bl true) fun _ _ _ => False := by
  refine ⟨⟨⟨K, none, none⟩, H, H, []⟩, [.scr (is.map .int)], [[]], rfl, rfl, rfl, ⟨by simp [Tl], ?_, by simp, fun a ha => by simp at ha, fun a ha => by simp at ha, Sub.refl _, Sub.refl _, fun a o h _ => .inl h, fun a h => h, fun a h => .inl h, fun x h => by cases h⟩, ?_⟩
  · simp only [List.map_cons, List.map_nil, Sl]
    refine ⟨_, _, _, _, rfl, rfl, ?_, rfl, rfl⟩
    exact (O.of_fz rfl).mpr ⟨rfl, by simp only [F]; exact ⟨a, _, rfl, sq, FL.nums is⟩⟩
  · rw [h]
    intro vr tw G' W' H' _ R
    obtain ⟨w, o⟩ := R.top
    simp only [Tm, O] at o
    exact o.2
end Mx
set_option Elab.async false
set_option linter.all false
set_option maxRecDepth 100000
set_option maxHeartbeats 0
/-! printed by gen.py: the walk of mixeddiffs_k14_whole_diffs_taken_apart -/
namespace Lw
open PySem PySem.Spec PyProof.Rows L2 Mx
def top (i : Nat) : Stmt := PySem.Challenge.pw_mixeddiffs_k14_whole_diffs_taken_apart.main.body.getD i (.Pass ⟨0, 0, 0, 0⟩)
/-! ### _law_pot(script, index) -/
def b__law_pot : SM := (seqS (setS 2 (fzM (ifM (boolM (opM ltD (varM 1) (unM lenD (varM 0)))) (unM absD (opM ixD (varM 0) (varM 1))) (opM addD (opM mulD (cstM (.int 7)) (varM 1)) (cstM (.int 3)))))) (retS (lstM (consM (opM maxD2 (cstM (.int 0)) (opM subD (varM 2) (opM powD (cstM (.int 10)) (cstM (.int 18))))) (consM (opM modD (unM intT (opM addD (opM addD (opM mulD (opM modD (unM intT (varM 2)) (cstM (.int 2147483629))) (cstM (.int 48271))) (opM mulD (cstM (.int 60029)) (varM 1))) (cstM (.int 31)))) (cstM (.int 2147483647))) nilM)))))
def f__law_pot : FM := fnM 1 [false, false, false] b__law_pot
/-! ### _law_draw(pot, many) -/
def b__law_draw : SM := (seqS (ifS (boolM (opM (cmpD fun i j => decide (j < i)) (opM ixD (varM 0) (cstM (.int 0))) (cstM (.int 0)))) (seqS (asgS (opM divmodD (opM ixD (varM 0) (cstM (.int 0))) (varM 1)) (tupG 2 (consG (subG 0 (cstM (.int 0))) (consG (nameG 2) nilG)))) (retS (varM 2))) skipS) (seqS (asgS (opM modD (unM intT (opM addD (opM mulD (opM ixD (varM 0) (cstM (.int 1))) (cstM (.int 39373))) (cstM (.int 12227)))) (cstM (.int 2147483629))) (subG 0 (cstM (.int 1)))) (retS (opM modD (unM intT (opM fdivD (opM modD (unM intT (opM mulD (opM ixD (varM 0) (cstM (.int 1))) (opM ixD (varM 0) (cstM (.int 1))))) (cstM (.int 2147483563))) (cstM (.int 13)))) (varM 1)))))
def f__law_draw : FM := fnM 1 [true, false, false] b__law_draw
/-! ### _law_pick(pot, some) -/
def b__law_pick : SM := (retS (opM ixD (varM 1) (callM ⟨2, 2, [true, false], [0, 1], []⟩ f__law_draw (consM (varM 0) (consM (unM lenD (varM 1)) nilM)))))
def f__law_pick : FM := fnM 0 [true, false] b__law_pick
/-! ### _law_text(pot, most) -/
def b__law_text : SM := (seqS (setS 2 (fzM (callM ⟨2, 2, [true, false], [0, 1], []⟩ f__law_pick (consM (varM 0) (consM (lstM (consM (lstM (consM (cstM (.str "a")) (consM (cstM (.str "b")) nilM))) (consM (lstM (consM (cstM (.str "a")) (consM (cstM (.str "b")) (consM (cstM (.str "c")) nilM)))) (consM (lstM (consM (cstM (.str "a")) (consM (cstM (.str "")) (consM (cstM (.str " ")) (consM (cstM (.str "a ")) (consM (cstM (.str "keep")) nilM)))))) (consM (lstM (consM (cstM (.str "-")) (consM (cstM (.str "+a")) (consM (cstM (.str "ab")) (consM (cstM (.str "a")) (consM (cstM (.str "A")) nilM)))))) nilM))))) nilM))))) (retS (lcM 4 [3] (rngI (lenA 1 (consM (callM ⟨2, 2, [true, false], [0, 1], []⟩ f__law_draw (consM (varM 0) (consM (opM addD (varM 1) (cstM (.int 1))) nilM))) nilM))) (nameG 3) yesB (callM ⟨2, 2, [true, false], [0, 1], []⟩ f__law_pick (consM (varM 0) (consM (varM 2) nilM))))))
def f__law_text : FM := fnM 2 [true, false, false, false] b__law_text
/-! ### _law_near(pot, lines, most) -/
def b__law_near : SM := (seqS (setS 3 (fzM (lstM nilM))) (seqS (forS (seqIt (varM 1)) (nameG 4) (seqS (setS 5 (fzM (callM ⟨2, 2, [true, false], [0, 1], []⟩ f__law_draw (consM (varM 0) (consM (cstM (.int 6)) nilM))))) (setS 3 (fzM (opM addD (varM 3) (opM ixD (lstM (consM (lstM (consM (varM 4) nilM)) (consM (lstM (consM (varM 4) nilM)) (consM (lstM (consM (varM 4) nilM)) (consM (lstM nilM) (consM (lstM (consM (varM 4) (consM (varM 4) nilM))) (consM (lstM (consM (callM ⟨2, 2, [true, false], [0, 1], []⟩ f__law_pick (consM (varM 0) (consM (lstM (consM (cstM (.str "a")) (consM (cstM (.str "b")) (consM (cstM (.str "new")) nilM)))) nilM))) (consM (varM 4) nilM))) nilM))))))) (varM 5))))))) (retS (slM (varM 3) noP (someP (varM 2))))))
def f__law_near : FM := fnM 3 [true, false, false, false, false, false] b__law_near
/-! ### _law_two(pot, most) -/
def b__law_two : SM := (seqS (setS 2 (fzM (callM ⟨2, 2, [true, false], [0, 1], []⟩ f__law_text (consM (varM 0) (consM (varM 1) nilM))))) (retS (tupM (consM (varM 2) (consM (ifM (boolM (opM eqD (callM ⟨2, 2, [true, false], [0, 1], []⟩ f__law_draw (consM (varM 0) (consM (cstM (.int 3)) nilM))) (cstM (.int 0)))) (callM ⟨2, 2, [true, false], [0, 1], []⟩ f__law_text (consM (varM 0) (consM (varM 1) nilM))) (callM ⟨3, 3, [true, false, false], [0, 1, 2], []⟩ f__law_near (consM (varM 0) (consM (varM 2) (consM (varM 1) nilM))))) nilM)))))
def f__law_two : FM := fnM 1 [true, false, false] b__law_two
/-! ### _law_diff(pot, elder, newer) -/
def E__law_diff_1 : EM := (varM 9)
def T__law_diff_1 : BM := (boolM (opM eqD (opM ixD (varM 2) (opM subD (varM 9) (cstM (.int 1)))) (varM 7)))
def C__law_diff_1 : EM := (lcM 10 [9] (rngI (lenA 2 (consM (opM addD (varM 4) (cstM (.int 1))) (consM (opM addD (unM lenD (varM 2)) (cstM (.int 1))) nilM)))) (nameG 9) T__law_diff_1 E__law_diff_1)
def L__law_diff_1 : SM := (seqS (setS 8 (fzM (slM C__law_diff_1 noP (someP (varM 5))))) (ifS (andB (boolM (opM neD (varM 8) (lstM nilM))) (boolM (opM (cmpD fun i j => decide (j < i)) (callM ⟨2, 2, [true, false], [0, 1], []⟩ f__law_draw (consM (varM 0) (consM (cstM (.int 4)) nilM))) (cstM (.int 0))))) (seqS (setS 4 (fzM (callM ⟨2, 2, [true, false], [0, 1], []⟩ f__law_pick (consM (varM 0) (consM (varM 8) nilM))))) (dropS (appM 3 (tupM (consM (opM addD (varM 6) (cstM (.int 1))) (consM (varM 4) nilM)))))) skipS))
def F__law_diff_1 : SM := (forS (enumI (varM 1)) (tupG 2 (consG (nameG 6) (consG (nameG 7) nilG))) L__law_diff_1)
def b__law_diff : SM := (seqS (par3S 3 4 5 (consM (lstM nilM) (consM (cstM (.int 0)) (consM (fzM (callM ⟨2, 2, [true, false], [0, 1], []⟩ f__law_pick (consM (varM 0) (consM (lstM (consM (cstM (.int 1)) (consM (cstM (.int 2)) (consM (cstM (.int 60)) nilM)))) nilM)))) nilM)))) (seqS F__law_diff_1 (retS (unM tupleD (varM 3)))))
def f__law_diff : FM := fnM 7 [true, false, false, false, false, false, false, false, false, false] b__law_diff
/-! ### _law_costs(pot) -/
def L__law_costs_1 : SM := (ifS (boolM (opM eqD (callM ⟨2, 2, [true, false], [0, 1], []⟩ f__law_draw (consM (varM 0) (consM (cstM (.int 3)) nilM))) (cstM (.int 0)))) (asgS (tupM (consM (callM ⟨2, 2, [true, false], [0, 1], []⟩ f__law_pick (consM (varM 0) (consM (lstM (consM (cstM (.int 1)) (consM (cstM (.int 5)) (consM (cstM (.int 999999)) nilM)))) nilM))) (consM (callM ⟨2, 2, [true, false], [0, 1], []⟩ f__law_pick (consM (varM 0) (consM (lstM (consM (cstM (.int 1)) (consM (cstM (.int 7)) (consM (cstM (.int 999999)) nilM)))) nilM))) nilM))) (subG 1 (varM 2))) skipS)
def F__law_costs_1 : SM := (forS (seqIt (lstM (consM (cstM (.str "a")) (consM (cstM (.str "")) (consM (cstM (.str "keep")) (consM (cstM (.str "-")) nilM)))))) (nameG 2) L__law_costs_1)
def b__law_costs : SM := (seqS (setS 1 (cstM (.odct [] []))) (seqS F__law_costs_1 (retS (tupM (consM (callM ⟨2, 2, [true, false], [0, 1], []⟩ f__law_pick (consM (varM 0) (consM (lstM (consM (cstM (.int 1)) (consM (cstM (.int 1)) (consM (cstM (.int 2)) (consM (cstM (.int 999999)) nilM))))) nilM))) (consM (callM ⟨2, 2, [true, false], [0, 1], []⟩ f__law_pick (consM (varM 0) (consM (lstM (consM (cstM (.int 1)) (consM (cstM (.int 1)) (consM (cstM (.int 3)) (consM (cstM (.int 999999)) nilM))))) nilM))) (consM (vfzM 1) nilM)))))))
def f__law_costs : FM := fnM 2 [true, false, false] b__law_costs
/-! ### _law_blocks(elder, newer, pairing) -/
def L__law_blocks_1 : SM := (seqS (ifS (orB (boolM (opM (cmpD fun i j => decide (j < i)) (opM subD (varM 6) (cstM (.int 1))) (varM 4))) (boolM (opM (cmpD fun i j => decide (j < i)) (opM subD (varM 7) (cstM (.int 1))) (varM 5)))) (dropS (appM 3 (tupM (consM (varM 4) (consM (opM subD (varM 6) (cstM (.int 1))) (consM (varM 5) (consM (opM subD (varM 7) (cstM (.int 1))) nilM))))))) skipS) (par2S 4 5 (consM (fzM (varM 6)) (consM (fzM (varM 7)) nilM))))
def F__law_blocks_1 : SM := (forS (seqIt (opM addD (unM listD (varM 2)) (lstM (consM (tupM (consM (opM addD (unM lenD (varM 0)) (cstM (.int 1))) (consM (opM addD (unM lenD (varM 1)) (cstM (.int 1))) nilM))) nilM)))) (tupG 2 (consG (nameG 6) (consG (nameG 7) nilG))) L__law_blocks_1)
def b__law_blocks : SM := (seqS (par3S 3 4 5 (consM (lstM nilM) (consM (cstM (.int 0)) (consM (cstM (.int 0)) nilM)))) (seqS F__law_blocks_1 (retS (movM 3))))
def f__law_blocks : FM := fnM 5 [false, false, false, false, false, false, false, false] b__law_blocks
/-! ### _law_by_blocks(blocks) -/
def L__law_by_blocks_1 : SM := (seqS (setS 1 (fzM (opM addD (varM 1) (lrg2M (opM addD (varM 3) (cstM (.int 1))) (opM addD (varM 4) (cstM (.int 1))))))) (setS 2 (fzM (opM addD (varM 2) (lrg2M (opM addD (varM 5) (cstM (.int 1))) (opM addD (varM 6) (cstM (.int 1))))))))
def F__law_by_blocks_1 : SM := (forS (seqIt (varM 0)) (tupG 4 (consG (nameG 3) (consG (nameG 4) (consG (nameG 5) (consG (nameG 6) nilG))))) L__law_by_blocks_1)
def b__law_by_blocks : SM := (seqS (par2S 1 2 (consM (fzM (lstM nilM)) (consM (fzM (lstM nilM)) nilM))) (seqS F__law_by_blocks_1 (retS (lstM (consM (varM 1) (consM (varM 2) nilM))))))
def f__law_by_blocks : FM := fnM 6 [false, false, false, false, false, false, false] b__law_by_blocks
/-! ### is_line(value) -/
def b_is_line : SM := (retS (andV (unM (isD ["str"]) (varM 0)) (opM ninD (cstM (.str "\n")) (varM 0))))
def f_is_line : FM := fnM 0 [false] b_is_line
/-! ### is_text(value) -/
def b_is_text : SM := (retS (andV (unM (isD ["list", "tuple"]) (varM 0)) (andV (opM (cmpD fun i j => decide (i ≤ j)) (unM lenD (varM 0)) (cstM (.int 60))) (unM allD (lcM 2 [1] (seqIt (varM 0)) (nameG 1) yesB (callM ⟨1, 1, [false], [0], []⟩ f_is_line (consM (varM 1) nilM)))))))
def f_is_text : FM := fnM 1 [false, false] b_is_text
/-! ### check_text(value) -/
def b_check_text : SM := (ifS (notB (boolM (callM ⟨1, 1, [false], [0], []⟩ f_is_text (consM (varM 0) nilM)))) badS skipS)
def f_check_text : FM := fnM 0 [false] b_check_text
/-! ### check_texts(values) -/
def b_check_texts : SM := (forS (seqIt (varM 0)) (nameG 1) (dropS (callM ⟨1, 1, [false], [0], []⟩ f_check_text (consM (varM 1) nilM))))
def f_check_texts : FM := fnM 1 [false, false] b_check_texts
/-! ### is_integer(value, least, most) -/
def b_is_integer : SM := (retS (andV (unM (isD ["int"]) (varM 0)) (andV (notV (unM (isD ["bool"]) (varM 0))) (chainM (fun i j => decide (i ≤ j)) (fun i j => decide (i ≤ j)) (varM 1) (varM 0) (varM 2)))))
def f_is_integer : FM := fnM 0 [false, false, false] b_is_integer
/-! ### is_pair(old, new, value) -/
def b_is_pair : SM := (seqS (ifS (orB (notB (boolM (unM (isD ["tuple"]) (varM 2)))) (boolM (opM neD (unM lenD (varM 2)) (cstM (.int 2))))) (retS (cstM (.bl false))) skipS) (seqS (ifS (orB (notB (boolM (callM ⟨3, 3, [false, false, false], [0, 1, 2], []⟩ f_is_integer (consM (opM ixD (varM 2) (cstM (.int 0))) (consM (cstM (.int 1)) (consM (unM lenD (varM 0)) nilM)))))) (notB (boolM (callM ⟨3, 3, [false, false, false], [0, 1, 2], []⟩ f_is_integer (consM (opM ixD (varM 2) (cstM (.int 1))) (consM (cstM (.int 1)) (consM (unM lenD (varM 1)) nilM))))))) (retS (cstM (.bl false))) skipS) (retS (opM eqD (opM ixD (varM 0) (opM subD (opM ixD (varM 2) (cstM (.int 0))) (cstM (.int 1)))) (opM ixD (varM 1) (opM subD (opM ixD (varM 2) (cstM (.int 1))) (cstM (.int 1))))))))
def f_is_pair : FM := fnM 0 [false, false, false] b_is_pair
/-! ### has_form(old, new, value) -/
def b_has_form : SM := (seqS (ifS (orB (notB (boolM (unM (isD ["tuple"]) (varM 2)))) (notB (boolM (unM allD (lcM 6 [5] (seqIt (varM 2)) (nameG 5) yesB (callM ⟨3, 3, [false, false, false], [0, 1, 2], []⟩ f_is_pair (consM (varM 0) (consM (varM 1) (consM (varM 5) nilM))))))))) (retS (cstM (.bl false))) skipS) (retS (unM allD (lcM 6 [3, 4] (zipI (varM 2) (slM (varM 2) (someP (cstM (.int 1))) noP)) (tupG 2 (consG (nameG 3) (consG (nameG 4) nilG))) yesB (andV (opM ltD (opM ixD (varM 3) (cstM (.int 0))) (opM ixD (varM 4) (cstM (.int 0)))) (opM ltD (opM ixD (varM 3) (cstM (.int 1))) (opM ixD (varM 4) (cstM (.int 1)))))))))
def f_has_form : FM := fnM 3 [false, false, false, false, false, false] b_has_form
/-! ### is_diff(old, new, value) -/
def b_is_diff : SM := (seqS (dropS (starM 2 0 f_check_texts (consM (varM 0) (consM (varM 1) nilM)))) (retS (callM ⟨3, 3, [false, false, false], [0, 1, 2], []⟩ f_has_form (consM (varM 0) (consM (varM 1) (consM (varM 2) nilM))))))
def f_is_diff : FM := fnM 0 [false, false, false] b_is_diff
/-! ### check_diff(old, new, value) -/
def b_check_diff : SM := (ifS (notB (boolM (callM ⟨3, 3, [false, false, false], [0, 1, 2], []⟩ f_is_diff (consM (varM 0) (consM (varM 1) (consM (varM 2) nilM)))))) badS skipS)
def f_check_diff : FM := fnM 0 [false, false, false] b_check_diff
/-! ### blocks_of(old, new, diff) -/
def b_blocks_of : SM := (seqS (dropS (callM ⟨3, 3, [false, false, false], [0, 1, 2], []⟩ f_check_diff (consM (varM 0) (consM (varM 1) (consM (varM 2) nilM))))) (seqS (setS 3 (lstM nilM)) (seqS (asgS (tupM (consM (cstM (.int 0)) (consM (cstM (.int 0)) nilM))) (tupG 2 (consG (nameG 4) (consG (nameG 5) nilG)))) (seqS (forS (seqIt (opM addD (varM 2) (tupM (consM (tupM (consM (opM addD (unM lenD (varM 0)) (cstM (.int 1))) (consM (opM addD (unM lenD (varM 1)) (cstM (.int 1))) nilM))) nilM)))) (tupG 2 (consG (nameG 6) (consG (nameG 7) nilG))) (seqS (ifS (boolM (opM neD (tupM (consM (varM 4) (consM (varM 5) nilM))) (tupM (consM (opM subD (varM 6) (cstM (.int 1))) (consM (opM subD (varM 7) (cstM (.int 1))) nilM))))) (dropS (appM 3 (tupM (consM (varM 4) (consM (opM subD (varM 6) (cstM (.int 1))) (consM (varM 5) (consM (opM subD (varM 7) (cstM (.int 1))) nilM))))))) skipS) (par2S 4 5 (consM (fzM (varM 6)) (consM (fzM (varM 7)) nilM))))) (retS (movM 3))))))
def f_blocks_of : FM := fnM 5 [false, false, false, false, false, false, false, false] b_blocks_of
/-! ### kept_lines(old, new, diff) -/
def b_kept_lines : SM := (seqS (dropS (callM ⟨3, 3, [false, false, false], [0, 1, 2], []⟩ f_check_diff (consM (varM 0) (consM (varM 1) (consM (varM 2) nilM))))) (retS (lcM 5 [3, 4] (seqIt (varM 2)) (tupG 2 (consG (nameG 3) (consG (nameG 4) nilG))) yesB (varM 3))))
def f_kept_lines : FM := fnM 2 [false, false, false, false, false] b_kept_lines
/-! ### gone_lines(old, new, diff) -/
def b_gone_lines : SM := (seqS (setS 3 (fzM (callM ⟨3, 3, [false, false, false], [0, 1, 2], []⟩ f_kept_lines (consM (varM 0) (consM (varM 1) (consM (varM 2) nilM)))))) (retS (lcM 5 [4] (rngI (lenA 2 (consM (cstM (.int 1)) (consM (opM addD (unM lenD (varM 0)) (cstM (.int 1))) nilM)))) (nameG 4) (boolM (opM ninD (varM 4) (varM 3))) (varM 4))))
def f_gone_lines : FM := fnM 2 [false, false, false, false, false] b_gone_lines
/-! ### come_lines(old, new, diff) -/
def b_come_lines : SM := (seqS (dropS (callM ⟨3, 3, [false, false, false], [0, 1, 2], []⟩ f_check_diff (consM (varM 0) (consM (varM 1) (consM (varM 2) nilM))))) (seqS (setS 3 (fzM (lcM 6 [4, 5] (seqIt (varM 2)) (tupG 2 (consG (nameG 4) (consG (nameG 5) nilG))) yesB (varM 5)))) (retS (lcM 6 [5] (rngI (lenA 2 (consM (cstM (.int 1)) (consM (opM addD (unM lenD (varM 1)) (cstM (.int 1))) nilM)))) (nameG 5) (boolM (opM ninD (varM 5) (varM 3))) (varM 5)))))
def f_come_lines : FM := fnM 3 [false, false, false, false, false, false] b_come_lines
/-! ### is_cost(value) -/
def b_is_cost : SM := (retS (andV (unM (isD ["int"]) (varM 0)) (andV (notV (unM (isD ["bool"]) (varM 0))) (chainM (fun i j => decide (i ≤ j)) (fun i j => decide (i ≤ j)) (cstM (.int 1)) (varM 0) (cstM (.int 999999))))))
def f_is_cost : FM := fnM 0 [false] b_is_cost
/-! ### are_own(value) -/
def b_are_own : SM := (retS (andV (unM (isD ["tuple"]) (varM 0)) (andV (opM eqD (unM lenD (varM 0)) (cstM (.int 2))) (unM allD (lcM 2 [1] (seqIt (varM 0)) (nameG 1) yesB (callM ⟨1, 1, [false], [0], []⟩ f_is_cost (consM (varM 1) nilM)))))))
def f_are_own : FM := fnM 1 [false, false] b_are_own
/-! ### own_costs(some) -/
def b_own_costs : SM := (seqS (ifS (boolM (unM isND (varM 0))) (retS (cstM (.odct [] []))) skipS) (seqS (ifS (notB (boolM (unM (isD ["dict"]) (varM 0)))) badS skipS) (seqS (forS (itemsI (varM 0)) (tupG 2 (consG (nameG 1) (consG (nameG 2) nilG))) (seqS (ifS (notB (boolM (callM ⟨1, 1, [false], [0], []⟩ f_is_line (consM (varM 1) nilM)))) badS skipS) (ifS (notB (boolM (callM ⟨1, 1, [false], [0], []⟩ f_are_own (consM (varM 2) nilM)))) badS skipS))) (retS (dcM 3 [1] (seqIt (unM sortedA (varM 0))) (nameG 1) yesB (varM 1) (opM ixDk (varM 0) (varM 1)))))))
def f_own_costs : FM := fnM 2 [false, false, false] b_own_costs
/-! ### Costs.__init__(self, going, coming, some) -/
def b_CostsD_initD : SM := (seqS (ifS (notB (boolM (callM ⟨1, 1, [false], [0], []⟩ f_is_cost (consM (varM 1) nilM)))) badS skipS) (seqS (ifS (notB (boolM (callM ⟨1, 1, [false], [0], []⟩ f_is_cost (consM (varM 2) nilM)))) badS skipS) (seqS (fldS 0 "Costs" "plain_costs" (tupM (consM (varM 1) (consM (varM 2) nilM)))) (fldS 0 "Costs" "own_costs" (dcM 6 [4, 5] (itemsI (callM ⟨1, 1, [false], [0], []⟩ f_own_costs (consM (varM 3) nilM))) (tupG 2 (consG (nameG 4) (consG (nameG 5) nilG))) (boolM (opM neD (varM 5) (unM (fldD "Costs" "plain_costs") (varM 0)))) (varM 4) (varM 5))))))
def f_CostsD_initD : FM := fnM 2 [true, false, false, false, false, false] b_CostsD_initD
/-! ### _law_cost(elder, newer, pairing, fees) -/
def E__law_cost_1 : EM := (varM 13)
def C__law_cost_1 : EM := (lcM 14 [12, 13] (seqIt (varM 2)) (tupG 2 (consG (nameG 12) (consG (nameG 13) nilG))) yesB E__law_cost_1)
def E__law_cost_2 : EM := (varM 12)
def C__law_cost_2 : EM := (lcM 14 [12, 13] (seqIt (varM 2)) (tupG 2 (consG (nameG 12) (consG (nameG 13) nilG))) yesB E__law_cost_2)
def L__law_cost_1 : SM := (ifS (boolM (opM ninD (opM addD (varM 10) (cstM (.int 1))) (varM 7))) (setS 9 (fzM (opM addD (varM 9) (opM ixD (dgetM (varM 6) (varM 11) (tupM (consM (varM 4) (consM (varM 5) nilM)))) (cstM (.int 0)))))) skipS)
def F__law_cost_1 : SM := (forS (enumI (varM 0)) (tupG 2 (consG (nameG 10) (consG (nameG 11) nilG))) L__law_cost_1)
def L__law_cost_2 : SM := (ifS (boolM (opM ninD (opM addD (varM 10) (cstM (.int 1))) (varM 8))) (setS 9 (fzM (opM addD (varM 9) (opM ixD (dgetM (varM 6) (varM 11) (tupM (consM (varM 4) (consM (varM 5) nilM)))) (cstM (.int 1)))))) skipS)
def F__law_cost_2 : SM := (forS (enumI (varM 1)) (tupG 2 (consG (nameG 10) (consG (nameG 11) nilG))) L__law_cost_2)
def b__law_cost : SM := (seqS (asgS (varM 3) (tupG 3 (consG (nameG 4) (consG (nameG 5) (consG (nameG 6) nilG))))) (seqS (par2S 7 8 (consM (fzM C__law_cost_2) (consM (fzM C__law_cost_1) nilM))) (seqS (setS 9 (cstM (.int 0))) (seqS F__law_cost_1 (seqS F__law_cost_2 (retS (varM 9)))))))
def f__law_cost : FM := fnM 10 [false, false, false, false, false, false, false, false, false, false, false, false, false, false] b__law_cost
/-! ### check_costs(value) -/
def b_check_costs : SM := (ifS (notB (boolM (unM (isCD "Costs") (varM 0)))) badS skipS)
def f_check_costs : FM := fnM 0 [false] b_check_costs
/-! ### Costs.costs_of(self, line) -/
def b_Costs_costs_of : SM := (seqS (ifS (notB (boolM (callM ⟨1, 1, [false], [0], []⟩ f_is_line (consM (varM 1) nilM)))) badS skipS) (retS (dgetM (unM (fldD "Costs" "own_costs") (varM 0)) (varM 1) (unM (fldD "Costs" "plain_costs") (varM 0)))))
def f_Costs_costs_of : FM := fnM 0 [false, false] b_Costs_costs_of
/-! ### Costs.going(self, line) -/
def b_Costs_going : SM := (retS (opM ixD (methM ⟨2, 2, [false, false], [0, 1], []⟩ "Costs" "costs_of" f_Costs_costs_of (varM 0) (consM (varM 1) nilM)) (cstM (.int 0))))
def f_Costs_going : FM := fnM 0 [false, false] b_Costs_going
/-! ### Costs.coming(self, line) -/
def b_Costs_coming : SM := (retS (opM ixD (methM ⟨2, 2, [false, false], [0, 1], []⟩ "Costs" "costs_of" f_Costs_costs_of (varM 0) (consM (varM 1) nilM)) (cstM (.int 1))))
def f_Costs_coming : FM := fnM 0 [false, false] b_Costs_coming
/-! ### cost_of(old, new, diff, costs) -/
def b_cost_of : SM := (seqS (dropS (callM ⟨3, 3, [false, false, false], [0, 1, 2], []⟩ f_check_diff (consM (varM 0) (consM (varM 1) (consM (varM 2) nilM))))) (seqS (dropS (callM ⟨1, 1, [false], [0], []⟩ f_check_costs (consM (varM 3) nilM))) (seqS (setS 4 (fzM (unM sumD (lcM 7 [5] (seqIt (callM ⟨3, 3, [false, false, false], [0, 1, 2], []⟩ f_gone_lines (consM (varM 0) (consM (varM 1) (consM (varM 2) nilM))))) (nameG 5) yesB (methM ⟨2, 2, [false, false], [0, 1], []⟩ "Costs" "going" f_Costs_going (varM 3) (consM (opM ixD (varM 0) (opM subD (varM 5) (cstM (.int 1)))) nilM)))))) (retS (opM addD (varM 4) (unM sumD (lcM 7 [6] (seqIt (callM ⟨3, 3, [false, false, false], [0, 1, 2], []⟩ f_come_lines (consM (varM 0) (consM (varM 1) (consM (varM 2) nilM))))) (nameG 6) yesB (methM ⟨2, 2, [false, false], [0, 1], []⟩ "Costs" "coming" f_Costs_coming (varM 3) (consM (opM ixD (varM 1) (opM subD (varM 6) (cstM (.int 1)))) nilM)))))))))
def f_cost_of : FM := fnM 3 [false, false, false, false, false, false, false] b_cost_of
/-! ### partner_of(old, new, diff, i) -/
def b_partner_of : SM := (seqS (dropS (callM ⟨3, 3, [false, false, false], [0, 1, 2], []⟩ f_check_diff (consM (varM 0) (consM (varM 1) (consM (varM 2) nilM))))) (seqS (ifS (notB (boolM (callM ⟨3, 3, [false, false, false], [0, 1, 2], []⟩ f_is_integer (consM (varM 3) (consM (cstM (.int 1)) (consM (unM lenD (varM 0)) nilM)))))) badS skipS) (retS (dget1M (unM dictA (varM 2)) (varM 3)))))
def f_partner_of : FM := fnM 0 [false, false, false, false] b_partner_of
/-! ### _law_right(pot, elder, newer, pairing) -/
def E__law_right_1 : EM := (varM 18)
def C__law_right_1 : EM := (lcM 21 [18, 19] (seqIt (varM 3)) (tupG 2 (consG (nameG 18) (consG (nameG 19) nilG))) yesB E__law_right_1)
def L__law_right_1 : SM := (seqS (setS 12 (ownM (consM (callM ⟨3, 3, [false, false, false], [0, 1, 2], []⟩ f_blocks_of (consM (varM 1) (consM (varM 2) (consM (varM 3) nilM)))) (consM (callM ⟨3, 3, [false, false, false], [0, 1, 2], []⟩ f_gone_lines (consM (varM 1) (consM (varM 2) (consM (varM 3) nilM)))) (consM (callM ⟨3, 3, [false, false, false], [0, 1, 2], []⟩ f_come_lines (consM (varM 1) (consM (varM 2) (consM (varM 3) nilM)))) nilM))))) (seqS (dropS (apoM 12 (callM ⟨3, 3, [false, false, false], [0, 1, 2], []⟩ f_kept_lines (consM (varM 1) (consM (varM 2) (consM (varM 3) nilM)))))) (seqS (ifS (boolM (opM neD (unM reprD (varM 12)) (unM reprD (varM 9)))) (retS (cstM (.bl false))) skipS) (forAp 13 12))))
def F__law_right_1 : SM := (forS (rngI (lenA 1 (consM (cstM (.int 2)) nilM))) (nameG 11) L__law_right_1)
def E__law_right_2 : EM := (callM ⟨4, 4, [false, false, false, false], [0, 1, 2, 3], []⟩ f_partner_of (consM (varM 1) (consM (varM 2) (consM (varM 3) (consM (opM addD (varM 20) (cstM (.int 1))) nilM)))))
def C__law_right_2 : EM := (lcM 21 [20] (rngI (lenA 1 (consM (unM lenD (varM 1)) nilM))) (nameG 20) yesB E__law_right_2)
def E__law_right_3 : EM := (dget1M (unM dictA (varM 3)) (opM addD (varM 20) (cstM (.int 1))))
def C__law_right_3 : EM := (lcM 21 [20] (rngI (lenA 1 (consM (unM lenD (varM 1)) nilM))) (nameG 20) yesB E__law_right_3)
def b__law_right : SM := (seqS (par2S 4 5 (consM (fzM (callM ⟨1, 1, [true], [0], []⟩ f__law_costs (consM (varM 0) nilM))) (consM (fzM (callM ⟨3, 3, [false, false, false], [0, 1, 2], []⟩ f__law_blocks (consM (varM 1) (consM (varM 2) (consM (varM 3) nilM))))) nilM))) (seqS (asgS (callM ⟨1, 1, [false], [0], []⟩ f__law_by_blocks (consM (varM 5) nilM)) (tupG 2 (consG (nameG 6) (consG (nameG 7) nilG)))) (seqS (setS 8 C__law_right_1) (frzS 8 (seqS (par2S 9 10 (consM (fzM (lstM (consM (varM 5) (consM (varM 6) (consM (varM 7) (consM (varM 8) nilM)))))) (consM (fzM (unM reprD (lstM (consM (varM 1) (consM (varM 2) (consM (varM 3) nilM)))))) nilM))) (seqS F__law_right_1 (seqS (setS 14 (lstM (consM (callM ⟨3, 3, [false, false, false], [2, 1, 0], []⟩ f_blocks_of (consM (varM 3) (consM (varM 2) (consM (unM tupleD (varM 1)) nilM)))) nilM))) (seqS (dropS (appM 14 (callM ⟨3, 3, [false, false, false], [2, 1, 0], []⟩ f_gone_lines (consM (varM 3) (consM (unM tupleD (varM 2)) (consM (varM 1) nilM)))))) (seqS (setS 14 (opM addD (varM 14) (lstM (consM (callM ⟨3, 3, [false, false, false], [2, 1, 0], []⟩ f_come_lines (consM (varM 3) (consM (varM 2) (consM (varM 1) nilM)))) (consM (callM ⟨3, 3, [false, false, false], [2, 1, 0], []⟩ f_kept_lines (consM (varM 3) (consM (varM 2) (consM (varM 1) nilM)))) nilM))))) (seqS (ifS (orB (boolM (opM neD (unM reprD (varM 14)) (unM reprD (varM 9)))) (boolM (opM neD (unM reprD (lstM (consM (varM 1) (consM (varM 2) (consM (varM 3) nilM))))) (varM 10)))) (retS (cstM (.bl false))) skipS) (seqS (ifS (orB (boolM (opM neD (unM sortedA (opM addD (varM 6) (varM 8))) (lrg2M (cstM (.int 1)) (opM addD (unM lenD (varM 1)) (cstM (.int 1)))))) (boolM (opM neD (opM addD (unM lenD (varM 7)) (unM lenD (varM 8))) (unM lenD (varM 2))))) (retS (cstM (.bl false))) skipS) (seqS (setS 15 (fzM (makeM ⟨3, 3, [false, false, false], [0, 1, 2], [.int 1, .int 1, .non]⟩ "Costs" f_CostsD_initD (consM (opM ixD (varM 4) (cstM (.int 0))) (consM (opM ixD (varM 4) (cstM (.int 1))) (consM (opM ixD (varM 4) (cstM (.int 2))) nilM)))))) (seqS (setS 16 (fzM (callM ⟨4, 4, [false, false, false, false], [0, 1, 2, 3], []⟩ f__law_cost (consM (varM 1) (consM (varM 2) (consM (varM 3) (consM (varM 4) nilM))))))) (seqS (setS 12 (ownM (consM (callM ⟨4, 4, [false, false, false, false], [0, 1, 2, 3], []⟩ f_cost_of (consM (varM 1) (consM (varM 2) (consM (varM 3) (consM (varM 15) nilM))))) (consM (callM ⟨4, 4, [false, false, false, false], [3, 2, 1, 0], []⟩ f_cost_of (consM (varM 15) (consM (varM 3) (consM (varM 2) (consM (varM 1) nilM))))) nilM)))) (seqS (ifS (boolM (opM neD (unM reprD (varM 12)) (unM reprD (lstM (consM (varM 16) (consM (varM 16) nilM)))))) (retS (cstM (.bl false))) skipS) (seqS (setS 17 C__law_right_2) (frzS 17 (retS (opM eqD (unM reprD (varM 17)) (unM reprD C__law_right_3))))))))))))))))))))
def f__law_right : FM := fnM 17 [true, false, false, false, false, false, false, false, false, false, false, false, false, false, false, false, false, false, false, false, false] b__law_right
/-! ### law(script) -/
def L_law_1 : SM := (ifS (notB (boolM (callM ⟨4, 4, [true, false, false, false], [0, 1, 2, 3], []⟩ f__law_right (consM (varM 2) (consM (varM 4) (consM (varM 5) (consM (varM 6) nilM))))))) (retS (cstM (.bl false))) skipS)
def F_law_1 : SM := (forS (seqIt (lstM (consM (callM ⟨3, 3, [true, false, false], [0, 1, 2], []⟩ f__law_diff (consM (varM 2) (consM (varM 4) (consM (varM 5) nilM)))) (consM (callM ⟨3, 3, [true, false, false], [0, 1, 2], []⟩ f__law_diff (consM (varM 2) (consM (varM 4) (consM (varM 5) nilM)))) (consM (cstM (.ptp [])) nilM))))) (nameG 6) L_law_1)
def E_law_1 : EM := (tupM (consM (opM addD (varM 8) (cstM (.int 1))) (consM (opM addD (varM 8) (cstM (.int 1))) nilM)))
def C_law_1 : EM := (lcM 9 [8] (rngI (lenA 1 (consM (unM lenD (varM 4)) nilM))) (nameG 8) yesB E_law_1)
def L_law_2 : SM := (seqS (asgS (callM ⟨2, 2, [true, false], [0, 1], []⟩ f__law_two (consM (varM 2) (consM (callM ⟨2, 2, [true, false], [0, 1], []⟩ f__law_pick (consM (varM 2) (consM (lstM (consM (cstM (.int 3)) (consM (cstM (.int 12)) (consM (cstM (.int 12)) (consM (cstM (.int 60)) nilM))))) nilM))) nilM))) (tupG 2 (consG (nameG 4) (consG (nameG 5) nilG)))) (seqS F_law_1 (seqS (setS 7 (fzM (unM tupleD C_law_1))) (ifS (orB (notB (boolM (callM ⟨4, 4, [true, false, false, false], [0, 1, 2, 3], []⟩ f__law_right (consM (varM 2) (consM (varM 4) (consM (unM listD (varM 4)) (consM (varM 7) nilM))))))) (notB (boolM (callM ⟨4, 4, [true, false, false, false], [0, 1, 2, 3], []⟩ f__law_right (consM (varM 2) (consM (lstM nilM) (consM (varM 5) (consM (cstM (.ptp [])) nilM)))))))) (retS (cstM (.bl false))) skipS))))
def F_law_2 : SM := (forS (rngI (lenA 1 (consM (cstM (.int 4)) nilM))) (nameG 3) L_law_2)
def L_law_3 : SM := (seqS (setS 2 (callM ⟨2, 2, [false, false], [0, 1], []⟩ f__law_pot (consM (varM 0) (consM (varM 1) nilM)))) F_law_2)
def F_law_3 : SM := (forS (rngI (lenA 1 (consM (opM maxD2 (cstM (.int 1)) (opM minD2 (cstM (.int 6)) (unM lenD (varM 0)))) nilM))) (nameG 1) L_law_3)
def b_law : SM := (seqS F_law_3 (retS (cstM (.bl true))))
def f_law : FM := fnM 8 [false, false, false, false, false, false, false, false, false] b_law
def d__law_pot : He.DefD := ⟨("_law_pot", none), "_law_pot", "_law_pot", defArgs (top 32), defBody (top 32), defScope (top 32), [], []⟩
def d__law_draw : He.DefD := ⟨("_law_draw", none), "_law_draw", "_law_draw", defArgs (top 33), defBody (top 33), defScope (top 33), [], []⟩
def d__law_pick : He.DefD := ⟨("_law_pick", none), "_law_pick", "_law_pick", defArgs (top 34), defBody (top 34), defScope (top 34), [], []⟩
def d__law_text : He.DefD := ⟨("_law_text", none), "_law_text", "_law_text", defArgs (top 35), defBody (top 35), defScope (top 35), [], []⟩
def d__law_near : He.DefD := ⟨("_law_near", none), "_law_near", "_law_near", defArgs (top 36), defBody (top 36), defScope (top 36), [], []⟩
def d__law_two : He.DefD := ⟨("_law_two", none), "_law_two", "_law_two", defArgs (top 37), defBody (top 37), defScope (top 37), [], []⟩
def d__law_diff : He.DefD := ⟨("_law_diff", none), "_law_diff", "_law_diff", defArgs (top 38), defBody (top 38), defScope (top 38), [], []⟩
def d__law_costs : He.DefD := ⟨("_law_costs", none), "_law_costs", "_law_costs", defArgs (top 39), defBody (top 39), defScope (top 39), [], []⟩
def d__law_blocks : He.DefD := ⟨("_law_blocks", none), "_law_blocks", "_law_blocks", defArgs (top 40), defBody (top 40), defScope (top 40), [], []⟩
def d__law_by_blocks : He.DefD := ⟨("_law_by_blocks", none), "_law_by_blocks", "_law_by_blocks", defArgs (top 42), defBody (top 42), defScope (top 42), [], []⟩
def d_is_line : He.DefD := ⟨("is_line", none), "is_line", "is_line", defArgs (top 9), defBody (top 9), defScope (top 9), [], []⟩
def d_is_text : He.DefD := ⟨("is_text", none), "is_text", "is_text", defArgs (top 10), defBody (top 10), defScope (top 10), [], []⟩
def d_check_text : He.DefD := ⟨("check_text", none), "check_text", "check_text", defArgs (top 11), defBody (top 11), defScope (top 11), [], []⟩
def d_check_texts : He.DefD := ⟨("check_texts", none), "check_texts", "check_texts", defArgs (top 12), defBody (top 12), defScope (top 12), [], []⟩
def d_is_integer : He.DefD := ⟨("is_integer", none), "is_integer", "is_integer", defArgs (top 20), defBody (top 20), defScope (top 20), [], []⟩
def d_is_pair : He.DefD := ⟨("is_pair", none), "is_pair", "is_pair", defArgs (top 21), defBody (top 21), defScope (top 21), [], []⟩
def d_has_form : He.DefD := ⟨("has_form", none), "has_form", "has_form", defArgs (top 22), defBody (top 22), defScope (top 22), [], []⟩
def d_is_diff : He.DefD := ⟨("is_diff", none), "is_diff", "is_diff", defArgs (top 23), defBody (top 23), defScope (top 23), [], []⟩
def d_check_diff : He.DefD := ⟨("check_diff", none), "check_diff", "check_diff", defArgs (top 24), defBody (top 24), defScope (top 24), [], []⟩
def d_blocks_of : He.DefD := ⟨("blocks_of", none), "blocks_of", "blocks_of", defArgs (top 25), defBody (top 25), defScope (top 25), [], []⟩
def d_kept_lines : He.DefD := ⟨("kept_lines", none), "kept_lines", "kept_lines", defArgs (top 26), defBody (top 26), defScope (top 26), [], []⟩
def d_gone_lines : He.DefD := ⟨("gone_lines", none), "gone_lines", "gone_lines", defArgs (top 27), defBody (top 27), defScope (top 27), [], []⟩
def d_come_lines : He.DefD := ⟨("come_lines", none), "come_lines", "come_lines", defArgs (top 28), defBody (top 28), defScope (top 28), [], []⟩
def d_is_cost : He.DefD := ⟨("is_cost", none), "is_cost", "is_cost", defArgs (top 14), defBody (top 14), defScope (top 14), [], []⟩
def d_are_own : He.DefD := ⟨("are_own", none), "are_own", "are_own", defArgs (top 15), defBody (top 15), defScope (top 15), [], []⟩
def d_own_costs : He.DefD := ⟨("own_costs", none), "own_costs", "own_costs", defArgs (top 17), defBody (top 17), defScope (top 17), [], []⟩
def d_CostsD_initD : He.DefD := ⟨("Costs", some "__init__"), "__init__", "Costs.__init__", defArgs (inClass (top 18) 1), defBody (inClass (top 18) 1), defScope (inClass (top 18) 1), [.int 1, .int 1, .non], []⟩
def d__law_cost : He.DefD := ⟨("_law_cost", none), "_law_cost", "_law_cost", defArgs (top 41), defBody (top 41), defScope (top 41), [], []⟩
def d_check_costs : He.DefD := ⟨("check_costs", none), "check_costs", "check_costs", defArgs (top 16), defBody (top 16), defScope (top 16), [], []⟩
def d_Costs_costs_of : He.DefD := ⟨("Costs", some "costs_of"), "costs_of", "Costs.costs_of", defArgs (inClass (top 18) 3), defBody (inClass (top 18) 3), defScope (inClass (top 18) 3), [], []⟩
def d_Costs_going : He.DefD := ⟨("Costs", some "going"), "going", "Costs.going", defArgs (inClass (top 18) 4), defBody (inClass (top 18) 4), defScope (inClass (top 18) 4), [], []⟩
def d_Costs_coming : He.DefD := ⟨("Costs", some "coming"), "coming", "Costs.coming", defArgs (inClass (top 18) 5), defBody (inClass (top 18) 5), defScope (inClass (top 18) 5), [], []⟩
def d_cost_of : He.DefD := ⟨("cost_of", none), "cost_of", "cost_of", defArgs (top 29), defBody (top 29), defScope (top 29), [], []⟩
def d_partner_of : He.DefD := ⟨("partner_of", none), "partner_of", "partner_of", defArgs (top 30), defBody (top 30), defScope (top 30), [], []⟩
def d__law_right : He.DefD := ⟨("_law_right", none), "_law_right", "_law_right", defArgs (top 43), defBody (top 43), defScope (top 43), [], []⟩
def d_law : He.DefD := ⟨("law", none), "law", "law", defArgs (top 44), defBody (top 44), defScope (top 44), [], []⟩
def fn : List He.DefD := [d__law_pot, d__law_draw, d__law_pick, d__law_text, d__law_near, d__law_two, d__law_diff, d__law_costs, d__law_blocks, d__law_by_blocks, d_is_line, d_is_text, d_check_text, d_check_texts, d_is_integer, d_is_pair, d_has_form, d_is_diff, d_check_diff, d_blocks_of, d_kept_lines, d_gone_lines, d_come_lines, d_is_cost, d_are_own, d_own_costs, d_CostsD_initD, d__law_cost, d_check_costs, d_Costs_costs_of, d_Costs_going, d_Costs_coming, d_cost_of, d_partner_of, d__law_right, d_law]
def fb0 : List FB := [(fun K => (He.Fa.glo "law").ok K), (fun K => (He.Fa.free "len").ok K), (fun K => (He.Fa.free "abs").ok K), (fun K => (He.Fa.free "max").ok K), (fun K => (He.Fa.free "int").ok K), (fun K => (He.Fa.free "divmod").ok K), (fun K => (He.Fa.glo "_law_draw").ok K), (fun K => (He.Fa.glo "_law_pick").ok K)]
def fb1 : List FB := [(fun K => (He.Fa.free "range").ok K), (fun K => (He.Fa.glo "_law_text").ok K), (fun K => (He.Fa.glo "_law_near").ok K), (fun K => (He.Fa.free "enumerate").ok K), (fun K => (He.Fa.free "tuple").ok K), (fun K => (He.Fa.free "list").ok K), (fun K => (He.Fa.free "isinstance").ok K), (fun K => (He.Fa.free "str").ok K)]
def fb2 : List FB := [(fun K => (He.Fa.int "MOST" 60).ok K), (fun K => (He.Fa.glo "is_line").ok K), (fun K => (He.Fa.free "all").ok K), (fun K => (He.Fa.glo "is_text").ok K), (fun K => (He.Fa.glo "check_text").ok K), (fun K => (He.Fa.free "bool").ok K), (fun K => (He.Fa.glo "is_integer").ok K), (fun K => (He.Fa.glo "is_pair").ok K)]
def fb3 : List FB := [(fun K => (He.Fa.free "zip").ok K), (fun K => (He.Fa.glo "check_texts").ok K), (fun K => (He.Fa.glo "has_form").ok K), (fun K => (He.Fa.glo "is_diff").ok K), (fun K => (He.Fa.glo "check_diff").ok K), (fun K => (He.Fa.glo "kept_lines").ok K), clsInt "Costs" "MOST" 999999, (fun K => (He.Fa.glo "Costs").ok K)]
def fb4 : List FB := [(fun K => (He.Fa.glo "is_cost").ok K), (fun K => (He.Fa.free "dict").ok K), (fun K => (He.Fa.glo "are_own").ok K), (fun K => (He.Fa.free "sorted").ok K), (fun K => (He.Fa.cls "Costs").ok K), (fun K => (He.Fa.noat "Costs" "plain_costs").ok K), (fun K => (He.Fa.glo "own_costs").ok K), (fun K => (He.Fa.noat "Costs" "own_costs").ok K)]
def fb5 : List FB := [clsIs "Costs", (fun K => (He.Fa.meth "Costs" "costs_of").ok K), (fun K => (He.Fa.glo "check_costs").ok K), (fun K => (He.Fa.glo "gone_lines").ok K), (fun K => (He.Fa.meth "Costs" "going").ok K), (fun K => (He.Fa.free "sum").ok K), (fun K => (He.Fa.glo "come_lines").ok K), (fun K => (He.Fa.meth "Costs" "coming").ok K)]
def fb6 : List FB := [(fun K => (He.Fa.glo "_law_blocks").ok K), (fun K => (He.Fa.glo "_law_costs").ok K), (fun K => (He.Fa.glo "_law_by_blocks").ok K), (fun K => (He.Fa.free "repr").ok K), (fun K => (He.Fa.glo "blocks_of").ok K), (fun K => (He.Fa.mkr "Costs").ok K), (fun K => (He.Fa.glo "_law_cost").ok K), (fun K => (He.Fa.glo "cost_of").ok K)]
def fb7 : List FB := [(fun K => (He.Fa.glo "partner_of").ok K), (fun K => (He.Fa.free "min").ok K), (fun K => (He.Fa.glo "_law_pot").ok K), (fun K => (He.Fa.glo "_law_two").ok K), (fun K => (He.Fa.glo "_law_diff").ok K), (fun K => (He.Fa.glo "_law_right").ok K)]
def fb : List FB := fb0 ++ fb1 ++ fb2 ++ fb3 ++ fb4 ++ fb5 ++ fb6 ++ fb7
/-- the text's facts in hand -/
structure Wd (K : PySem.W.Frag) (mg : Str → Option Value) : Prop where
  ex : ∃ h : Heap, K.In h ∧ h.Ns mainGlobals mg
  c : SaysX fb fn K
theorem Wd.f {K : PySem.W.Frag} {mg : Str → Option Value} (W : Wd K mg) (i : Nat) {f : FB} (h : fb[i]? = some f := by rfl) : f K = true := W.c.fact i h
theorem Wd.X {K : PySem.W.Frag} {mg : Str → Option Value} (W : Wd K mg) : K.In W.ex.choose := W.ex.choose_spec.1
theorem Wd.G {K : PySem.W.Frag} {mg : Str → Option Value} (W : Wd K mg) : W.ex.choose.Ns mainGlobals mg := W.ex.choose_spec.2
theorem Wd.free {K : PySem.W.Frag} {mg : Str → Option Value} (W : Wd K mg) (i : Nat) {x : Str} (h : fb[i]? = some (fun K => (He.Fa.free x).ok K) := by rfl) : mg x = none := He.free_ok W.X W.G (W.c.fact i h)
theorem Wd.glo {K : PySem.W.Frag} {mg : Str → Option Value} (W : Wd K mg) (i : Nat) {x : Str} (h : fb[i]? = some (fun K => (He.Fa.glo x).ok K) := by rfl) : mg x = some (.ref (He.ga K x)) := He.glo_ok W.X W.G (W.c.fact i h)
theorem sc__law_pot : FnScope ["script", "index", "cell"] ["script", "index"] (defScope (top 32)) := ⟨rfl, rfl, rfl, by decide +kernel, rfl, by decide +kernel, by decide +kernel⟩
theorem fd__law_pot {K : PySem.W.Frag} {mg : Str → Option Value} (W : Wd K mg) : ∃ fd, FunD K "_law_pot" "_law_pot" (defArgs (top 32)) (defBody (top 32)) (defScope (top 32)) [] [] (He.fAd K ("_law_pot", none)) fd := W.c.def_ 0 (d := d__law_pot) rfl
theorem kp__law_pot {K : PySem.W.Frag} {mg : Str → Option Value} (W : Wd K mg) : PySem.W.keepIn K (.ref (He.fAd K ("_law_pot", none))) = true := (fd__law_pot W).choose_spec.kp
theorem ok__law_pot {P : Program} {w : World} {K : PySem.W.Frag} {mg : Str → Option Value} {base : Heap} {fd : FuncData} (W : Wd K mg) (Fd : FunD K "_law_pot" "_law_pot" (defArgs (top 32)) (defBody (top 32)) (defScope (top 32)) [] [] (He.fAd K ("_law_pot", none)) fd) :
    FnOg false P w K mg base 1 (He.fAd K ("_law_pot", none)) fd ["script", "index"] (spM K 2 f__law_pot) := by
  refine fnog (N := ["script", "index", "cell"]) (ps := ["script", "index"]) (k := 0) (n := 2) (ro := [false, false, false]) (b := b__law_pot) Fd sc__law_pot rfl fun cdv A outer s H E hr hgd => ?_
  have tx := takes_of (X := cxOf (L2.CX P w) P w K mg base ["script", "index", "cell"] "_law_pot" (defScope (top 32)) (He.fAd K ("_law_pot", none)) cdv A outer s H E) (E := E) rfl rfl rfl rfl
  unfold b__law_pot
  exact (mss_cons (ms_set (i := 2) sc__law_pot.nd rfl (by first | exact Or.inl rfl | exact Or.inr rfl) (me_fz (me_if (mtB (pt_cmp (mc_lt hr.units0 (me_var (i := 1) rfl (by first | exact Or.inl rfl | exact Or.inr (Or.inl rfl) | exact Or.inr (Or.inr rfl))) (me_b1 b_len rfl (W.free 1 (x := "len")) boot_len (me_var (i := 0) rfl (by first | exact Or.inl rfl | exact Or.inr (Or.inl rfl) | exact Or.inr (Or.inr rfl))))))) (me_b1 b_abs rfl (W.free 2 (x := "abs")) boot_abs (me_sx (me_var (i := 0) rfl (by first | exact Or.inl rfl | exact Or.inr (Or.inl rfl) | exact Or.inr (Or.inr rfl))) (me_var (i := 1) rfl (by first | exact Or.inl rfl | exact Or.inr (Or.inl rfl) | exact Or.inr (Or.inr rfl))))) (me_add (me_mul me_int (me_var (i := 1) rfl (by first | exact Or.inl rfl | exact Or.inr (Or.inl rfl) | exact Or.inr (Or.inr rfl)))) me_int)))) (mss_one (ms_ret (me_lst (ma_cons (me_b2 (b_max2 rfl) rfl (W.free 3 (x := "max")) boot_max me_int (me_sub (me_var (i := 2) rfl (by first | exact Or.inl rfl | exact Or.inr (Or.inl rfl) | exact Or.inr (Or.inr rfl))) (me_pow me_int me_int))) (ma_cons (me_mod (me_ty1 b_int rfl (W.free 4 (x := "int")) boot_int (me_add (me_add (me_mul (me_mod (me_ty1 b_int rfl (W.free 4 (x := "int")) boot_int (me_var (i := 2) rfl (by first | exact Or.inl rfl | exact Or.inr (Or.inl rfl) | exact Or.inr (Or.inr rfl)))) me_int) me_int) (me_mul me_int (me_var (i := 1) rfl (by first | exact Or.inl rfl | exact Or.inr (Or.inl rfl) | exact Or.inr (Or.inr rfl))))) me_int)) me_int) ma_nil))))))
theorem ck__law_pot_2 {P : Program} {w : World} {K : PySem.W.Frag} {mg : Str → Option Value} {base : Heap} (W : Wd K mg) : Ck false P w K mg base 1 (He.fAd K ("_law_pot", none)) 2 [] 2 [0, 1] [] f__law_pot := by
  obtain ⟨fd, Fd⟩ := fd__law_pot W
  exact (ok__law_pot W Fd).ck (Bd.plain (ps := ["script", "index"]) Fd 2 [] [0, 1] fun _ _ _ _ _ _ us ws h1 h2 => match us, h1, ws, h2 with | [_, _], _, [], _ => rfl)
theorem sc__law_draw : FnScope ["pot", "many", "digit"] ["pot", "many"] (defScope (top 33)) := ⟨rfl, rfl, rfl, by decide +kernel, rfl, by decide +kernel, by decide +kernel⟩
theorem fd__law_draw {K : PySem.W.Frag} {mg : Str → Option Value} (W : Wd K mg) : ∃ fd, FunD K "_law_draw" "_law_draw" (defArgs (top 33)) (defBody (top 33)) (defScope (top 33)) [] [] (He.fAd K ("_law_draw", none)) fd := W.c.def_ 1 (d := d__law_draw) rfl
theorem kp__law_draw {K : PySem.W.Frag} {mg : Str → Option Value} (W : Wd K mg) : PySem.W.keepIn K (.ref (He.fAd K ("_law_draw", none))) = true := (fd__law_draw W).choose_spec.kp
theorem ok__law_draw {P : Program} {w : World} {K : PySem.W.Frag} {mg : Str → Option Value} {base : Heap} {fd : FuncData} (W : Wd K mg) (Fd : FunD K "_law_draw" "_law_draw" (defArgs (top 33)) (defBody (top 33)) (defScope (top 33)) [] [] (He.fAd K ("_law_draw", none)) fd) :
    FnOg false P w K mg base 1 (He.fAd K ("_law_draw", none)) fd ["pot", "many"] (spM K 2 f__law_draw) := by
  refine fnog (N := ["pot", "many", "digit"]) (ps := ["pot", "many"]) (k := 0) (n := 2) (ro := [true, false, false]) (b := b__law_draw) Fd sc__law_draw rfl fun cdv A outer s H E hr hgd => ?_
  have tx := takes_of (X := cxOf (L2.CX P w) P w K mg base ["pot", "many", "digit"] "_law_draw" (defScope (top 33)) (He.fAd K ("_law_draw", none)) cdv A outer s H E) (E := E) rfl rfl rfl rfl
  unfold b__law_draw
  exact (mss_cons (ms_if (mtB (pt_cmp (mc_gt (me_sx (me_var (i := 0) rfl (by first | exact Or.inl rfl | exact Or.inr (Or.inl rfl) | exact Or.inr (Or.inr rfl))) me_int) me_int))) (mss_cons (ms_asg (me_b2 b_divmod rfl (W.free 5 (x := "divmod")) boot_divmod (me_sx (me_var (i := 0) rfl (by first | exact Or.inl rfl | exact Or.inr (Or.inl rfl) | exact Or.inr (Or.inr rfl))) me_int) (me_var (i := 1) rfl (by first | exact Or.inl rfl | exact Or.inr (Or.inl rfl) | exact Or.inr (Or.inr rfl)))) (mg_tup (n := 2) rfl (mgs_cons (mg_sub (s := 0) (wx := (fun cls d _ H => E cls d H)) (hu_of hr) rfl (by first | exact Or.inl rfl | exact Or.inr (Or.inl rfl)) me_int) (mgs_cons (mg_name (i := 2) sc__law_draw.nd rfl (by first | exact Or.inl rfl | exact Or.inr rfl)) mgs_nil)))) (mss_one (ms_ret (me_var (i := 2) rfl (by first | exact Or.inl rfl | exact Or.inr (Or.inl rfl) | exact Or.inr (Or.inr rfl)))))) mss_nil) (mss_cons (ms_asg (me_mod (me_ty1 b_int rfl (W.free 4 (x := "int")) boot_int (me_add (me_mul (me_sx (me_var (i := 0) rfl (by first | exact Or.inl rfl | exact Or.inr (Or.inl rfl) | exact Or.inr (Or.inr rfl))) me_int) me_int) me_int)) me_int) (mg_sub (s := 0) (wx := (fun cls d _ H => E cls d H)) (hu_of hr) rfl (by first | exact Or.inl rfl | exact Or.inr (Or.inl rfl)) me_int)) (mss_one (ms_ret (me_mod (me_ty1 b_int rfl (W.free 4 (x := "int")) boot_int (me_fdiv (me_mod (me_ty1 b_int rfl (W.free 4 (x := "int")) boot_int (me_mul (me_sx (me_var (i := 0) rfl (by first | exact Or.inl rfl | exact Or.inr (Or.inl rfl) | exact Or.inr (Or.inr rfl))) me_int) (me_sx (me_var (i := 0) rfl (by first | exact Or.inl rfl | exact Or.inr (Or.inl rfl) | exact Or.inr (Or.inr rfl))) me_int))) me_int) me_int)) (me_var (i := 1) rfl (by first | exact Or.inl rfl | exact Or.inr (Or.inl rfl) | exact Or.inr (Or.inr rfl))))))))
theorem ck__law_draw_2 {P : Program} {w : World} {K : PySem.W.Frag} {mg : Str → Option Value} {base : Heap} (W : Wd K mg) : Ck false P w K mg base 1 (He.fAd K ("_law_draw", none)) 2 [] 2 [0, 1] [] f__law_draw := by
  obtain ⟨fd, Fd⟩ := fd__law_draw W
  exact (ok__law_draw W Fd).ck (Bd.plain (ps := ["pot", "many"]) Fd 2 [] [0, 1] fun _ _ _ _ _ _ us ws h1 h2 => match us, h1, ws, h2 with | [_, _], _, [], _ => rfl)
theorem sc__law_pick : FnScope ["pot", "some"] ["pot", "some"] (defScope (top 34)) := ⟨rfl, rfl, rfl, by decide +kernel, rfl, by decide +kernel, by decide +kernel⟩
theorem fd__law_pick {K : PySem.W.Frag} {mg : Str → Option Value} (W : Wd K mg) : ∃ fd, FunD K "_law_pick" "_law_pick" (defArgs (top 34)) (defBody (top 34)) (defScope (top 34)) [] [] (He.fAd K ("_law_pick", none)) fd := W.c.def_ 2 (d := d__law_pick) rfl
theorem kp__law_pick {K : PySem.W.Frag} {mg : Str → Option Value} (W : Wd K mg) : PySem.W.keepIn K (.ref (He.fAd K ("_law_pick", none))) = true := (fd__law_pick W).choose_spec.kp
theorem ok__law_pick {P : Program} {w : World} {K : PySem.W.Frag} {mg : Str → Option Value} {base : Heap} {fd : FuncData} (W : Wd K mg) (Fd : FunD K "_law_pick" "_law_pick" (defArgs (top 34)) (defBody (top 34)) (defScope (top 34)) [] [] (He.fAd K ("_law_pick", none)) fd) :
    FnOg false P w K mg base 2 (He.fAd K ("_law_pick", none)) fd ["pot", "some"] (spM K 2 f__law_pick) := by
  refine fnog (N := ["pot", "some"]) (ps := ["pot", "some"]) (k := 1) (n := 2) (ro := [true, false]) (b := b__law_pick) Fd sc__law_pick rfl fun cdv A outer s H E hr hgd => ?_
  have tx := takes_of (X := cxOf (L2.CX P w) P w K mg base ["pot", "some"] "_law_pick" (defScope (top 34)) (He.fAd K ("_law_pick", none)) cdv A outer s H E) (E := E) rfl rfl rfl rfl
  unfold b__law_pick
  exact (mss_one (ms_ret (me_sx (me_var (i := 1) rfl (by first | exact Or.inl rfl | exact Or.inr (Or.inl rfl) | exact Or.inr (Or.inr rfl))) (me_call (g := ⟨2, 2, [true, false], [0, 1], []⟩) ((ck__law_draw_2 W).mono (k := 1) (by decide)) hr (fun z => nomatch z) tx rfl (W.glo 6 (x := "_law_draw")) (kp__law_draw W) (fun G => by simp [FL]) (ma_cons (me_var (i := 0) rfl (by first | exact Or.inl rfl | exact Or.inr (Or.inl rfl) | exact Or.inr (Or.inr rfl))) (ma_cons (me_b1 b_len rfl (W.free 1 (x := "len")) boot_len (me_var (i := 1) rfl (by first | exact Or.inl rfl | exact Or.inr (Or.inl rfl) | exact Or.inr (Or.inr rfl)))) ma_nil))))))
theorem ck__law_pick_2 {P : Program} {w : World} {K : PySem.W.Frag} {mg : Str → Option Value} {base : Heap} (W : Wd K mg) : Ck false P w K mg base 2 (He.fAd K ("_law_pick", none)) 2 [] 2 [0, 1] [] f__law_pick := by
  obtain ⟨fd, Fd⟩ := fd__law_pick W
  exact (ok__law_pick W Fd).ck (Bd.plain (ps := ["pot", "some"]) Fd 2 [] [0, 1] fun _ _ _ _ _ _ us ws h1 h2 => match us, h1, ws, h2 with | [_, _], _, [], _ => rfl)
theorem sc__law_text : FnScope ["pot", "most", "words", "turn"] ["pot", "most"] (defScope (top 35)) := ⟨rfl, rfl, rfl, by decide +kernel, rfl, by decide +kernel, by decide +kernel⟩
theorem fd__law_text {K : PySem.W.Frag} {mg : Str → Option Value} (W : Wd K mg) : ∃ fd, FunD K "_law_text" "_law_text" (defArgs (top 35)) (defBody (top 35)) (defScope (top 35)) [] [] (He.fAd K ("_law_text", none)) fd := W.c.def_ 3 (d := d__law_text) rfl
theorem kp__law_text {K : PySem.W.Frag} {mg : Str → Option Value} (W : Wd K mg) : PySem.W.keepIn K (.ref (He.fAd K ("_law_text", none))) = true := (fd__law_text W).choose_spec.kp
theorem ok__law_text {P : Program} {w : World} {K : PySem.W.Frag} {mg : Str → Option Value} {base : Heap} {fd : FuncData} (W : Wd K mg) (Fd : FunD K "_law_text" "_law_text" (defArgs (top 35)) (defBody (top 35)) (defScope (top 35)) [] [] (He.fAd K ("_law_text", none)) fd) :
    FnOg false P w K mg base 3 (He.fAd K ("_law_text", none)) fd ["pot", "most"] (spM K 2 f__law_text) := by
  refine fnog (N := ["pot", "most", "words", "turn"]) (ps := ["pot", "most"]) (k := 2) (n := 2) (ro := [true, false, false, false]) (b := b__law_text) Fd sc__law_text rfl fun cdv A outer s H E hr hgd => ?_
  have tx := takes_of (X := cxOf (L2.CX P w) P w K mg base ["pot", "most", "words", "turn"] "_law_text" (defScope (top 35)) (He.fAd K ("_law_text", none)) cdv A outer s H E) (E := E) rfl rfl rfl rfl
  unfold b__law_text
  exact (mss_cons (ms_set (i := 2) sc__law_text.nd rfl (by first | exact Or.inl rfl | exact Or.inr rfl) (me_fz (me_call (g := ⟨2, 2, [true, false], [0, 1], []⟩) ((ck__law_pick_2 W).mono (k := 2) (by decide)) hr (fun z => nomatch z) tx rfl (W.glo 7 (x := "_law_pick")) (kp__law_pick W) (fun G => by simp [FL]) (ma_cons (me_var (i := 0) rfl (by first | exact Or.inl rfl | exact Or.inr (Or.inl rfl) | exact Or.inr (Or.inr rfl))) (ma_cons (me_lst (ma_cons (me_lst (ma_cons me_str (ma_cons me_str ma_nil))) (ma_cons (me_lst (ma_cons me_str (ma_cons me_str (ma_cons me_str ma_nil)))) (ma_cons (me_lst (ma_cons me_str (ma_cons me_str (ma_cons me_str (ma_cons me_str (ma_cons me_str ma_nil)))))) (ma_cons (me_lst (ma_cons me_str (ma_cons me_str (ma_cons me_str (ma_cons me_str (ma_cons me_str ma_nil)))))) ma_nil))))) ma_nil))))) (mss_one (ms_ret (me_lc (n := 4) (own := [("turn", 3)]) rfl sc__law_text.nd (mi_range1 rfl (W.free 8 (x := "range")) (ma_cons (me_call (g := ⟨2, 2, [true, false], [0, 1], []⟩) ((ck__law_draw_2 W).mono (k := 2) (by decide)) hr (fun z => nomatch z) tx rfl (W.glo 6 (x := "_law_draw")) (kp__law_draw W) (fun G => by simp [FL]) (ma_cons (me_var (i := 0) rfl (by first | exact Or.inl rfl | exact Or.inr (Or.inl rfl) | exact Or.inr (Or.inr rfl))) (ma_cons (me_add (me_var (i := 1) rfl (by first | exact Or.inl rfl | exact Or.inr (Or.inl rfl) | exact Or.inr (Or.inr rfl))) me_int) ma_nil))) ma_nil)) (blkOk_by (own := [("turn", 3)]) rfl) gl_name (fun _ _ _ _ _ => (mg_name (i := 3) sc__law_text.nd rfl (by first | exact Or.inl rfl | exact Or.inr rfl))) (fun _ _ _ _ _ => (me_call (g := ⟨2, 2, [true, false], [0, 1], []⟩) ((ck__law_pick_2 W).mono (k := 2) (by decide)) hr (fun z => nomatch z) takesF rfl (W.glo 7 (x := "_law_pick")) (kp__law_pick W) (fun G => by simp [FL]) (ma_cons (me_var (i := 0) rfl (by first | exact Or.inl rfl | exact Or.inr (Or.inl rfl) | exact Or.inr (Or.inr rfl))) (ma_cons (me_var (i := 2) rfl (by first | exact Or.inl rfl | exact Or.inr (Or.inl rfl) | exact Or.inr (Or.inr rfl))) ma_nil))))))))
theorem ck__law_text_2 {P : Program} {w : World} {K : PySem.W.Frag} {mg : Str → Option Value} {base : Heap} (W : Wd K mg) : Ck false P w K mg base 3 (He.fAd K ("_law_text", none)) 2 [] 2 [0, 1] [] f__law_text := by
  obtain ⟨fd, Fd⟩ := fd__law_text W
  exact (ok__law_text W Fd).ck (Bd.plain (ps := ["pot", "most"]) Fd 2 [] [0, 1] fun _ _ _ _ _ _ us ws h1 h2 => match us, h1, ws, h2 with | [_, _], _, [], _ => rfl)
theorem sc__law_near : FnScope ["pot", "lines", "most", "found", "line", "way"] ["pot", "lines", "most"] (defScope (top 36)) := ⟨rfl, rfl, rfl, by decide +kernel, rfl, by decide +kernel, by decide +kernel⟩
theorem fd__law_near {K : PySem.W.Frag} {mg : Str → Option Value} (W : Wd K mg) : ∃ fd, FunD K "_law_near" "_law_near" (defArgs (top 36)) (defBody (top 36)) (defScope (top 36)) [] [] (He.fAd K ("_law_near", none)) fd := W.c.def_ 4 (d := d__law_near) rfl
theorem kp__law_near {K : PySem.W.Frag} {mg : Str → Option Value} (W : Wd K mg) : PySem.W.keepIn K (.ref (He.fAd K ("_law_near", none))) = true := (fd__law_near W).choose_spec.kp
theorem ok__law_near {P : Program} {w : World} {K : PySem.W.Frag} {mg : Str → Option Value} {base : Heap} {fd : FuncData} (W : Wd K mg) (Fd : FunD K "_law_near" "_law_near" (defArgs (top 36)) (defBody (top 36)) (defScope (top 36)) [] [] (He.fAd K ("_law_near", none)) fd) :
    FnOg false P w K mg base 3 (He.fAd K ("_law_near", none)) fd ["pot", "lines", "most"] (spM K 3 f__law_near) := by
  refine fnog (N := ["pot", "lines", "most", "found", "line", "way"]) (ps := ["pot", "lines", "most"]) (k := 2) (n := 3) (ro := [true, false, false, false, false, false]) (b := b__law_near) Fd sc__law_near rfl fun cdv A outer s H E hr hgd => ?_
  have tx := takes_of (X := cxOf (L2.CX P w) P w K mg base ["pot", "lines", "most", "found", "line", "way"] "_law_near" (defScope (top 36)) (He.fAd K ("_law_near", none)) cdv A outer s H E) (E := E) rfl rfl rfl rfl
  unfold b__law_near
  exact (mss_cons (ms_set (i := 3) sc__law_near.nd rfl (by first | exact Or.inl rfl | exact Or.inr rfl) (me_fz (me_lst ma_nil))) (mss_cons (ms_for (passes_of rfl) rfl (mi_seq (me_var (i := 1) rfl (by first | exact Or.inl rfl | exact Or.inr (Or.inl rfl) | exact Or.inr (Or.inr rfl)))) (mg_name (i := 4) sc__law_near.nd rfl (by first | exact Or.inl rfl | exact Or.inr rfl)) (mss_cons (ms_set (i := 5) sc__law_near.nd rfl (by first | exact Or.inl rfl | exact Or.inr rfl) (me_fz (me_call (g := ⟨2, 2, [true, false], [0, 1], []⟩) ((ck__law_draw_2 W).mono (k := 2) (by decide)) hr (fun z => nomatch z) tx rfl (W.glo 6 (x := "_law_draw")) (kp__law_draw W) (fun G => by simp [FL]) (ma_cons (me_var (i := 0) rfl (by first | exact Or.inl rfl | exact Or.inr (Or.inl rfl) | exact Or.inr (Or.inr rfl))) (ma_cons me_int ma_nil))))) (mss_one (ms_set (i := 3) sc__law_near.nd rfl (by first | exact Or.inl rfl | exact Or.inr rfl) (me_fz (me_add (me_var (i := 3) rfl (by first | exact Or.inl rfl | exact Or.inr (Or.inl rfl) | exact Or.inr (Or.inr rfl))) (me_sx (me_lst (ma_cons (me_lst (ma_cons (me_var (i := 4) rfl (by first | exact Or.inl rfl | exact Or.inr (Or.inl rfl) | exact Or.inr (Or.inr rfl))) ma_nil)) (ma_cons (me_lst (ma_cons (me_var (i := 4) rfl (by first | exact Or.inl rfl | exact Or.inr (Or.inl rfl) | exact Or.inr (Or.inr rfl))) ma_nil)) (ma_cons (me_lst (ma_cons (me_var (i := 4) rfl (by first | exact Or.inl rfl | exact Or.inr (Or.inl rfl) | exact Or.inr (Or.inr rfl))) ma_nil)) (ma_cons (me_lst ma_nil) (ma_cons (me_lst (ma_cons (me_var (i := 4) rfl (by first | exact Or.inl rfl | exact Or.inr (Or.inl rfl) | exact Or.inr (Or.inr rfl))) (ma_cons (me_var (i := 4) rfl (by first | exact Or.inl rfl | exact Or.inr (Or.inl rfl) | exact Or.inr (Or.inr rfl))) ma_nil))) (ma_cons (me_lst (ma_cons (me_call (g := ⟨2, 2, [true, false], [0, 1], []⟩) ((ck__law_pick_2 W).mono (k := 2) (by decide)) hr (fun z => nomatch z) tx rfl (W.glo 7 (x := "_law_pick")) (kp__law_pick W) (fun G => by simp [FL]) (ma_cons (me_var (i := 0) rfl (by first | exact Or.inl rfl | exact Or.inr (Or.inl rfl) | exact Or.inr (Or.inr rfl))) (ma_cons (me_lst (ma_cons me_str (ma_cons me_str (ma_cons me_str ma_nil)))) ma_nil))) (ma_cons (me_var (i := 4) rfl (by first | exact Or.inl rfl | exact Or.inr (Or.inl rfl) | exact Or.inr (Or.inr rfl))) ma_nil))) ma_nil))))))) (me_var (i := 5) rfl (by first | exact Or.inl rfl | exact Or.inr (Or.inl rfl) | exact Or.inr (Or.inr rfl)))))))))) (mss_one (ms_ret (me_sl (me_var (i := 3) rfl (by first | exact Or.inl rfl | exact Or.inr (Or.inl rfl) | exact Or.inr (Or.inr rfl))) mo_none (mo_some (me_var (i := 2) rfl (by first | exact Or.inl rfl | exact Or.inr (Or.inl rfl) | exact Or.inr (Or.inr rfl)))))))))
theorem ck__law_near_3 {P : Program} {w : World} {K : PySem.W.Frag} {mg : Str → Option Value} {base : Heap} (W : Wd K mg) : Ck false P w K mg base 3 (He.fAd K ("_law_near", none)) 3 [] 3 [0, 1, 2] [] f__law_near := by
  obtain ⟨fd, Fd⟩ := fd__law_near W
  exact (ok__law_near W Fd).ck (Bd.plain (ps := ["pot", "lines", "most"]) Fd 3 [] [0, 1, 2] fun _ _ _ _ _ _ us ws h1 h2 => match us, h1, ws, h2 with | [_, _, _], _, [], _ => rfl)
theorem sc__law_two : FnScope ["pot", "most", "elder"] ["pot", "most"] (defScope (top 37)) := ⟨rfl, rfl, rfl, by decide +kernel, rfl, by decide +kernel, by decide +kernel⟩
theorem fd__law_two {K : PySem.W.Frag} {mg : Str → Option Value} (W : Wd K mg) : ∃ fd, FunD K "_law_two" "_law_two" (defArgs (top 37)) (defBody (top 37)) (defScope (top 37)) [] [] (He.fAd K ("_law_two", none)) fd := W.c.def_ 5 (d := d__law_two) rfl
theorem kp__law_two {K : PySem.W.Frag} {mg : Str → Option Value} (W : Wd K mg) : PySem.W.keepIn K (.ref (He.fAd K ("_law_two", none))) = true := (fd__law_two W).choose_spec.kp
theorem ok__law_two {P : Program} {w : World} {K : PySem.W.Frag} {mg : Str → Option Value} {base : Heap} {fd : FuncData} (W : Wd K mg) (Fd : FunD K "_law_two" "_law_two" (defArgs (top 37)) (defBody (top 37)) (defScope (top 37)) [] [] (He.fAd K ("_law_two", none)) fd) :
    FnOg false P w K mg base 4 (He.fAd K ("_law_two", none)) fd ["pot", "most"] (spM K 2 f__law_two) := by
  refine fnog (N := ["pot", "most", "elder"]) (ps := ["pot", "most"]) (k := 3) (n := 2) (ro := [true, false, false]) (b := b__law_two) Fd sc__law_two rfl fun cdv A outer s H E hr hgd => ?_
  have tx := takes_of (X := cxOf (L2.CX P w) P w K mg base ["pot", "most", "elder"] "_law_two" (defScope (top 37)) (He.fAd K ("_law_two", none)) cdv A outer s H E) (E := E) rfl rfl rfl rfl
  unfold b__law_two
  exact (mss_cons (ms_set (i := 2) sc__law_two.nd rfl (by first | exact Or.inl rfl | exact Or.inr rfl) (me_fz (me_call (g := ⟨2, 2, [true, false], [0, 1], []⟩) ((ck__law_text_2 W).mono (k := 3) (by decide)) hr (fun z => nomatch z) tx rfl (W.glo 9 (x := "_law_text")) (kp__law_text W) (fun G => by simp [FL]) (ma_cons (me_var (i := 0) rfl (by first | exact Or.inl rfl | exact Or.inr (Or.inl rfl) | exact Or.inr (Or.inr rfl))) (ma_cons (me_var (i := 1) rfl (by first | exact Or.inl rfl | exact Or.inr (Or.inl rfl) | exact Or.inr (Or.inr rfl))) ma_nil))))) (mss_one (ms_ret (me_tup (ma_cons (me_var (i := 2) rfl (by first | exact Or.inl rfl | exact Or.inr (Or.inl rfl) | exact Or.inr (Or.inr rfl))) (ma_cons (me_if (mtB (pt_cmp (mc_eq hr.units (me_call (g := ⟨2, 2, [true, false], [0, 1], []⟩) ((ck__law_draw_2 W).mono (k := 3) (by decide)) hr (fun z => nomatch z) tx rfl (W.glo 6 (x := "_law_draw")) (kp__law_draw W) (fun G => by simp [FL]) (ma_cons (me_var (i := 0) rfl (by first | exact Or.inl rfl | exact Or.inr (Or.inl rfl) | exact Or.inr (Or.inr rfl))) (ma_cons me_int ma_nil))) me_int))) (me_call (g := ⟨2, 2, [true, false], [0, 1], []⟩) ((ck__law_text_2 W).mono (k := 3) (by decide)) hr (fun z => nomatch z) tx rfl (W.glo 9 (x := "_law_text")) (kp__law_text W) (fun G => by simp [FL]) (ma_cons (me_var (i := 0) rfl (by first | exact Or.inl rfl | exact Or.inr (Or.inl rfl) | exact Or.inr (Or.inr rfl))) (ma_cons (me_var (i := 1) rfl (by first | exact Or.inl rfl | exact Or.inr (Or.inl rfl) | exact Or.inr (Or.inr rfl))) ma_nil))) (me_call (g := ⟨3, 3, [true, false, false], [0, 1, 2], []⟩) ((ck__law_near_3 W).mono (k := 3) (by decide)) hr (fun z => nomatch z) tx rfl (W.glo 10 (x := "_law_near")) (kp__law_near W) (fun G => by simp [FL]) (ma_cons (me_var (i := 0) rfl (by first | exact Or.inl rfl | exact Or.inr (Or.inl rfl) | exact Or.inr (Or.inr rfl))) (ma_cons (me_var (i := 2) rfl (by first | exact Or.inl rfl | exact Or.inr (Or.inl rfl) | exact Or.inr (Or.inr rfl))) (ma_cons (me_var (i := 1) rfl (by first | exact Or.inl rfl | exact Or.inr (Or.inl rfl) | exact Or.inr (Or.inr rfl))) ma_nil))))) ma_nil))))))
theorem ck__law_two_2 {P : Program} {w : World} {K : PySem.W.Frag} {mg : Str → Option Value} {base : Heap} (W : Wd K mg) : Ck false P w K mg base 4 (He.fAd K ("_law_two", none)) 2 [] 2 [0, 1] [] f__law_two := by
  obtain ⟨fd, Fd⟩ := fd__law_two W
  exact (ok__law_two W Fd).ck (Bd.plain (ps := ["pot", "most"]) Fd 2 [] [0, 1] fun _ _ _ _ _ _ us ws h1 h2 => match us, h1, ws, h2 with | [_, _], _, [], _ => rfl)
theorem sc__law_diff : FnScope ["pot", "elder", "newer", "found", "last", "far", "k", "line", "some", "j"] ["pot", "elder", "newer"] (defScope (top 38)) := ⟨rfl, rfl, rfl, by decide +kernel, rfl, by decide +kernel, by decide +kernel⟩
theorem fd__law_diff {K : PySem.W.Frag} {mg : Str → Option Value} (W : Wd K mg) : ∃ fd, FunD K "_law_diff" "_law_diff" (defArgs (top 38)) (defBody (top 38)) (defScope (top 38)) [] [] (He.fAd K ("_law_diff", none)) fd := W.c.def_ 6 (d := d__law_diff) rfl
theorem kp__law_diff {K : PySem.W.Frag} {mg : Str → Option Value} (W : Wd K mg) : PySem.W.keepIn K (.ref (He.fAd K ("_law_diff", none))) = true := (fd__law_diff W).choose_spec.kp
theorem ok__law_diff {P : Program} {w : World} {K : PySem.W.Frag} {mg : Str → Option Value} {base : Heap} {fd : FuncData} (W : Wd K mg) (Fd : FunD K "_law_diff" "_law_diff" (defArgs (top 38)) (defBody (top 38)) (defScope (top 38)) [] [] (He.fAd K ("_law_diff", none)) fd) :
    FnOg false P w K mg base 3 (He.fAd K ("_law_diff", none)) fd ["pot", "elder", "newer"] (spM K 3 f__law_diff) := by
  refine fnog (N := ["pot", "elder", "newer", "found", "last", "far", "k", "line", "some", "j"]) (ps := ["pot", "elder", "newer"]) (k := 2) (n := 3) (ro := [true, false, false, false, false, false, false, false, false, false]) (b := b__law_diff) Fd sc__law_diff rfl fun cdv A outer s H E hr hgd => ?_
  have tx := takes_of (X := cxOf (L2.CX P w) P w K mg base ["pot", "elder", "newer", "found", "last", "far", "k", "line", "some", "j"] "_law_diff" (defScope (top 38)) (He.fAd K ("_law_diff", none)) cdv A outer s H E) (E := E) rfl rfl rfl rfl
  unfold b__law_diff F__law_diff_1 L__law_diff_1 C__law_diff_1 T__law_diff_1 E__law_diff_1
  exact (mss_cons (ms_par3 (i := 3) (j := 4) (l := 5) rfl sc__law_diff.nd rfl rfl rfl (by decide) (by decide) (by decide) rfl rfl rfl (ma_cons (me_lst ma_nil) (ma_cons me_int (ma_cons (me_fz (me_call (g := ⟨2, 2, [true, false], [0, 1], []⟩) ((ck__law_pick_2 W).mono (k := 2) (by decide)) hr (fun z => nomatch z) tx rfl (W.glo 7 (x := "_law_pick")) (kp__law_pick W) (fun G => by simp [FL]) (ma_cons (me_var (i := 0) rfl (by first | exact Or.inl rfl | exact Or.inr (Or.inl rfl) | exact Or.inr (Or.inr rfl))) (ma_cons (me_lst (ma_cons me_int (ma_cons me_int (ma_cons me_int ma_nil)))) ma_nil)))) ma_nil))) rfl) (mss_cons (ms_for (passes_of rfl) rfl (mi_enum rfl (W.free 11 (x := "enumerate")) (me_var (i := 1) rfl (by first | exact Or.inl rfl | exact Or.inr (Or.inl rfl) | exact Or.inr (Or.inr rfl)))) (mg_tup (n := 2) rfl (mgs_cons (mg_name (i := 6) sc__law_diff.nd rfl (by first | exact Or.inl rfl | exact Or.inr rfl)) (mgs_cons (mg_name (i := 7) sc__law_diff.nd rfl (by first | exact Or.inl rfl | exact Or.inr rfl)) mgs_nil))) (mss_cons (ms_set (i := 8) sc__law_diff.nd rfl (by first | exact Or.inl rfl | exact Or.inr rfl) (me_fz (me_sl (me_lcIf (n := 10) (own := [("j", 9)]) rfl sc__law_diff.nd (mi_range2 rfl (W.free 8 (x := "range")) (ma_cons (me_add (me_var (i := 4) rfl (by first | exact Or.inl rfl | exact Or.inr (Or.inl rfl) | exact Or.inr (Or.inr rfl))) me_int) (ma_cons (me_add (me_b1 b_len rfl (W.free 1 (x := "len")) boot_len (me_var (i := 2) rfl (by first | exact Or.inl rfl | exact Or.inr (Or.inl rfl) | exact Or.inr (Or.inr rfl)))) me_int) ma_nil))) (blkOk_by (own := [("j", 9)]) rfl) gl_name (fun _ _ _ _ _ => (mg_name (i := 9) sc__law_diff.nd rfl (by first | exact Or.inl rfl | exact Or.inr rfl))) (fun _ _ _ _ _ => (mtB (pt_cmp (mc_eq hr.units (me_sx (me_var (i := 2) rfl (by first | exact Or.inl rfl | exact Or.inr (Or.inl rfl) | exact Or.inr (Or.inr rfl))) (me_sub (me_var (i := 9) rfl (by first | exact Or.inl rfl | exact Or.inr (Or.inl rfl) | exact Or.inr (Or.inr rfl))) me_int)) (me_var (i := 7) rfl (by first | exact Or.inl rfl | exact Or.inr (Or.inl rfl) | exact Or.inr (Or.inr rfl))))))) (fun _ _ _ _ _ => (me_var (i := 9) rfl (by first | exact Or.inl rfl | exact Or.inr (Or.inl rfl) | exact Or.inr (Or.inr rfl))))) mo_none (mo_some (me_var (i := 5) rfl (by first | exact Or.inl rfl | exact Or.inr (Or.inl rfl) | exact Or.inr (Or.inr rfl))))))) (mss_one (ms_if (PW.pt (mw_and (mtB (pt_cmp (mc_ne hr.units (me_var (i := 8) rfl (by first | exact Or.inl rfl | exact Or.inr (Or.inl rfl) | exact Or.inr (Or.inr rfl))) (me_lst ma_nil)))) (mw_and1 (mtB (pt_cmp (mc_gt (me_call (g := ⟨2, 2, [true, false], [0, 1], []⟩) ((ck__law_draw_2 W).mono (k := 2) (by decide)) hr (fun z => nomatch z) tx rfl (W.glo 6 (x := "_law_draw")) (kp__law_draw W) (fun G => by simp [FL]) (ma_cons (me_var (i := 0) rfl (by first | exact Or.inl rfl | exact Or.inr (Or.inl rfl) | exact Or.inr (Or.inr rfl))) (ma_cons me_int ma_nil))) me_int)))))) (mss_cons (ms_set (i := 4) sc__law_diff.nd rfl (by first | exact Or.inl rfl | exact Or.inr rfl) (me_fz (me_call (g := ⟨2, 2, [true, false], [0, 1], []⟩) ((ck__law_pick_2 W).mono (k := 2) (by decide)) hr (fun z => nomatch z) tx rfl (W.glo 7 (x := "_law_pick")) (kp__law_pick W) (fun G => by simp [FL]) (ma_cons (me_var (i := 0) rfl (by first | exact Or.inl rfl | exact Or.inr (Or.inl rfl) | exact Or.inr (Or.inr rfl))) (ma_cons (me_var (i := 8) rfl (by first | exact Or.inl rfl | exact Or.inr (Or.inl rfl) | exact Or.inr (Or.inr rfl))) ma_nil))))) (mss_one (ms_expr (me_append (s := 3) rfl (by first | exact Or.inl rfl | exact Or.inr (Or.inl rfl) | exact Or.inr (Or.inr rfl)) (me_tup (ma_cons (me_add (me_var (i := 6) rfl (by first | exact Or.inl rfl | exact Or.inr (Or.inl rfl) | exact Or.inr (Or.inr rfl))) me_int) (ma_cons (me_var (i := 4) rfl (by first | exact Or.inl rfl | exact Or.inr (Or.inl rfl) | exact Or.inr (Or.inr rfl))) ma_nil))))))) mss_nil)))) (mss_one (ms_ret (me_ty1 b_tuple rfl (W.free 12 (x := "tuple")) boot_tuple (me_var (i := 3) rfl (by first | exact Or.inl rfl | exact Or.inr (Or.inl rfl) | exact Or.inr (Or.inr rfl))))))))
theorem ck__law_diff_3 {P : Program} {w : World} {K : PySem.W.Frag} {mg : Str → Option Value} {base : Heap} (W : Wd K mg) : Ck false P w K mg base 3 (He.fAd K ("_law_diff", none)) 3 [] 3 [0, 1, 2] [] f__law_diff := by
  obtain ⟨fd, Fd⟩ := fd__law_diff W
  exact (ok__law_diff W Fd).ck (Bd.plain (ps := ["pot", "elder", "newer"]) Fd 3 [] [0, 1, 2] fun _ _ _ _ _ _ us ws h1 h2 => match us, h1, ws, h2 with | [_, _, _], _, [], _ => rfl)
theorem sc__law_costs : FnScope ["pot", "own", "word"] ["pot"] (defScope (top 39)) := ⟨rfl, rfl, rfl, by decide +kernel, rfl, by decide +kernel, by decide +kernel⟩
theorem fd__law_costs {K : PySem.W.Frag} {mg : Str → Option Value} (W : Wd K mg) : ∃ fd, FunD K "_law_costs" "_law_costs" (defArgs (top 39)) (defBody (top 39)) (defScope (top 39)) [] [] (He.fAd K ("_law_costs", none)) fd := W.c.def_ 7 (d := d__law_costs) rfl
theorem kp__law_costs {K : PySem.W.Frag} {mg : Str → Option Value} (W : Wd K mg) : PySem.W.keepIn K (.ref (He.fAd K ("_law_costs", none))) = true := (fd__law_costs W).choose_spec.kp
theorem ok__law_costs {P : Program} {w : World} {K : PySem.W.Frag} {mg : Str → Option Value} {base : Heap} {fd : FuncData} (W : Wd K mg) (Fd : FunD K "_law_costs" "_law_costs" (defArgs (top 39)) (defBody (top 39)) (defScope (top 39)) [] [] (He.fAd K ("_law_costs", none)) fd) :
    FnOg false P w K mg base 3 (He.fAd K ("_law_costs", none)) fd ["pot"] (spM K 1 f__law_costs) := by
  refine fnog (N := ["pot", "own", "word"]) (ps := ["pot"]) (k := 2) (n := 1) (ro := [true, false, false]) (b := b__law_costs) Fd sc__law_costs rfl fun cdv A outer s H E hr hgd => ?_
  have tx := takes_of (X := cxOf (L2.CX P w) P w K mg base ["pot", "own", "word"] "_law_costs" (defScope (top 39)) (He.fAd K ("_law_costs", none)) cdv A outer s H E) (E := E) rfl rfl rfl rfl
  unfold b__law_costs F__law_costs_1 L__law_costs_1
  exact (mss_cons (ms_set (i := 1) sc__law_costs.nd rfl (by first | exact Or.inl rfl | exact Or.inr rfl) me_dnew) (mss_cons (ms_for (passes_of rfl) rfl (mi_seq (me_lst (ma_cons me_str (ma_cons me_str (ma_cons me_str (ma_cons me_str ma_nil)))))) (mg_name (i := 2) sc__law_costs.nd rfl (by first | exact Or.inl rfl | exact Or.inr rfl)) (mss_one (ms_if (mtB (pt_cmp (mc_eq hr.units (me_call (g := ⟨2, 2, [true, false], [0, 1], []⟩) ((ck__law_draw_2 W).mono (k := 2) (by decide)) hr (fun z => nomatch z) tx rfl (W.glo 6 (x := "_law_draw")) (kp__law_draw W) (fun G => by simp [FL]) (ma_cons (me_var (i := 0) rfl (by first | exact Or.inl rfl | exact Or.inr (Or.inl rfl) | exact Or.inr (Or.inr rfl))) (ma_cons me_int ma_nil))) me_int))) (mss_one (ms_asg (me_tup (ma_cons (me_call (g := ⟨2, 2, [true, false], [0, 1], []⟩) ((ck__law_pick_2 W).mono (k := 2) (by decide)) hr (fun z => nomatch z) tx rfl (W.glo 7 (x := "_law_pick")) (kp__law_pick W) (fun G => by simp [FL]) (ma_cons (me_var (i := 0) rfl (by first | exact Or.inl rfl | exact Or.inr (Or.inl rfl) | exact Or.inr (Or.inr rfl))) (ma_cons (me_lst (ma_cons me_int (ma_cons me_int (ma_cons me_int ma_nil)))) ma_nil))) (ma_cons (me_call (g := ⟨2, 2, [true, false], [0, 1], []⟩) ((ck__law_pick_2 W).mono (k := 2) (by decide)) hr (fun z => nomatch z) tx rfl (W.glo 7 (x := "_law_pick")) (kp__law_pick W) (fun G => by simp [FL]) (ma_cons (me_var (i := 0) rfl (by first | exact Or.inl rfl | exact Or.inr (Or.inl rfl) | exact Or.inr (Or.inr rfl))) (ma_cons (me_lst (ma_cons me_int (ma_cons me_int (ma_cons me_int ma_nil)))) ma_nil))) ma_nil))) (mg_sub (s := 1) (wx := (fun cls d _ H => E cls d H)) (hu_of hr) rfl (by first | exact Or.inl rfl | exact Or.inr (Or.inl rfl)) (me_var (i := 2) rfl (by first | exact Or.inl rfl | exact Or.inr (Or.inl rfl) | exact Or.inr (Or.inr rfl)))))) mss_nil))) (mss_one (ms_ret (me_tup (ma_cons (me_call (g := ⟨2, 2, [true, false], [0, 1], []⟩) ((ck__law_pick_2 W).mono (k := 2) (by decide)) hr (fun z => nomatch z) tx rfl (W.glo 7 (x := "_law_pick")) (kp__law_pick W) (fun G => by simp [FL]) (ma_cons (me_var (i := 0) rfl (by first | exact Or.inl rfl | exact Or.inr (Or.inl rfl) | exact Or.inr (Or.inr rfl))) (ma_cons (me_lst (ma_cons me_int (ma_cons me_int (ma_cons me_int (ma_cons me_int ma_nil))))) ma_nil))) (ma_cons (me_call (g := ⟨2, 2, [true, false], [0, 1], []⟩) ((ck__law_pick_2 W).mono (k := 2) (by decide)) hr (fun z => nomatch z) tx rfl (W.glo 7 (x := "_law_pick")) (kp__law_pick W) (fun G => by simp [FL]) (ma_cons (me_var (i := 0) rfl (by first | exact Or.inl rfl | exact Or.inr (Or.inl rfl) | exact Or.inr (Or.inr rfl))) (ma_cons (me_lst (ma_cons me_int (ma_cons me_int (ma_cons me_int (ma_cons me_int ma_nil))))) ma_nil))) (ma_cons (me_vfz (i := 1) rfl (by first | exact Or.inl rfl | exact Or.inr (Or.inl rfl) | exact Or.inr (Or.inr rfl))) ma_nil))))))))
theorem ck__law_costs_1 {P : Program} {w : World} {K : PySem.W.Frag} {mg : Str → Option Value} {base : Heap} (W : Wd K mg) : Ck false P w K mg base 3 (He.fAd K ("_law_costs", none)) 1 [] 1 [0] [] f__law_costs := by
  obtain ⟨fd, Fd⟩ := fd__law_costs W
  exact (ok__law_costs W Fd).ck (Bd.plain (ps := ["pot"]) Fd 1 [] [0] fun _ _ _ _ _ _ us ws h1 h2 => match us, h1, ws, h2 with | [_], _, [], _ => rfl)
theorem sc__law_blocks : FnScope ["elder", "newer", "pairing", "found", "a", "c", "i", "j"] ["elder", "newer", "pairing"] (defScope (top 40)) := ⟨rfl, rfl, rfl, by decide +kernel, rfl, by decide +kernel, by decide +kernel⟩
theorem fd__law_blocks {K : PySem.W.Frag} {mg : Str → Option Value} (W : Wd K mg) : ∃ fd, FunD K "_law_blocks" "_law_blocks" (defArgs (top 40)) (defBody (top 40)) (defScope (top 40)) [] [] (He.fAd K ("_law_blocks", none)) fd := W.c.def_ 8 (d := d__law_blocks) rfl
theorem kp__law_blocks {K : PySem.W.Frag} {mg : Str → Option Value} (W : Wd K mg) : PySem.W.keepIn K (.ref (He.fAd K ("_law_blocks", none))) = true := (fd__law_blocks W).choose_spec.kp
theorem ok__law_blocks {P : Program} {w : World} {K : PySem.W.Frag} {mg : Str → Option Value} {base : Heap} {fd : FuncData} (W : Wd K mg) (Fd : FunD K "_law_blocks" "_law_blocks" (defArgs (top 40)) (defBody (top 40)) (defScope (top 40)) [] [] (He.fAd K ("_law_blocks", none)) fd) :
    FnOg false P w K mg base 1 (He.fAd K ("_law_blocks", none)) fd ["elder", "newer", "pairing"] (spM K 3 f__law_blocks) := by
  refine fnog (N := ["elder", "newer", "pairing", "found", "a", "c", "i", "j"]) (ps := ["elder", "newer", "pairing"]) (k := 0) (n := 3) (ro := [false, false, false, false, false, false, false, false]) (b := b__law_blocks) Fd sc__law_blocks rfl fun cdv A outer s H E hr hgd => ?_
  have tx := takes_of (X := cxOf (L2.CX P w) P w K mg base ["elder", "newer", "pairing", "found", "a", "c", "i", "j"] "_law_blocks" (defScope (top 40)) (He.fAd K ("_law_blocks", none)) cdv A outer s H E) (E := E) rfl rfl rfl rfl
  unfold b__law_blocks F__law_blocks_1 L__law_blocks_1
  exact (mss_cons (ms_par3 (i := 3) (j := 4) (l := 5) rfl sc__law_blocks.nd rfl rfl rfl (by decide) (by decide) (by decide) rfl rfl rfl (ma_cons (me_lst ma_nil) (ma_cons me_int (ma_cons me_int ma_nil))) rfl) (mss_cons (ms_for (passes_of rfl) rfl (mi_seq (me_add (me_ty1 b_list rfl (W.free 13 (x := "list")) boot_list (me_var (i := 2) rfl (by first | exact Or.inl rfl | exact Or.inr (Or.inl rfl) | exact Or.inr (Or.inr rfl)))) (me_lst (ma_cons (me_tup (ma_cons (me_add (me_b1 b_len rfl (W.free 1 (x := "len")) boot_len (me_var (i := 0) rfl (by first | exact Or.inl rfl | exact Or.inr (Or.inl rfl) | exact Or.inr (Or.inr rfl)))) me_int) (ma_cons (me_add (me_b1 b_len rfl (W.free 1 (x := "len")) boot_len (me_var (i := 1) rfl (by first | exact Or.inl rfl | exact Or.inr (Or.inl rfl) | exact Or.inr (Or.inr rfl)))) me_int) ma_nil))) ma_nil)))) (mg_tup (n := 2) rfl (mgs_cons (mg_name (i := 6) sc__law_blocks.nd rfl (by first | exact Or.inl rfl | exact Or.inr rfl)) (mgs_cons (mg_name (i := 7) sc__law_blocks.nd rfl (by first | exact Or.inl rfl | exact Or.inr rfl)) mgs_nil))) (mss_cons (ms_if (PW.pt (mw_or (mtB (pt_cmp (mc_gt (me_sub (me_var (i := 6) rfl (by first | exact Or.inl rfl | exact Or.inr (Or.inl rfl) | exact Or.inr (Or.inr rfl))) me_int) (me_var (i := 4) rfl (by first | exact Or.inl rfl | exact Or.inr (Or.inl rfl) | exact Or.inr (Or.inr rfl)))))) (mw_or1 (mtB (pt_cmp (mc_gt (me_sub (me_var (i := 7) rfl (by first | exact Or.inl rfl | exact Or.inr (Or.inl rfl) | exact Or.inr (Or.inr rfl))) me_int) (me_var (i := 5) rfl (by first | exact Or.inl rfl | exact Or.inr (Or.inl rfl) | exact Or.inr (Or.inr rfl))))))))) (mss_one (ms_expr (me_append (s := 3) rfl (by first | exact Or.inl rfl | exact Or.inr (Or.inl rfl) | exact Or.inr (Or.inr rfl)) (me_tup (ma_cons (me_var (i := 4) rfl (by first | exact Or.inl rfl | exact Or.inr (Or.inl rfl) | exact Or.inr (Or.inr rfl))) (ma_cons (me_sub (me_var (i := 6) rfl (by first | exact Or.inl rfl | exact Or.inr (Or.inl rfl) | exact Or.inr (Or.inr rfl))) me_int) (ma_cons (me_var (i := 5) rfl (by first | exact Or.inl rfl | exact Or.inr (Or.inl rfl) | exact Or.inr (Or.inr rfl))) (ma_cons (me_sub (me_var (i := 7) rfl (by first | exact Or.inl rfl | exact Or.inr (Or.inl rfl) | exact Or.inr (Or.inr rfl))) me_int) ma_nil)))))))) mss_nil) (mss_one (ms_par2 (i := 4) (j := 5) rfl sc__law_blocks.nd rfl rfl (by decide) rfl rfl (ma_cons (me_fz (me_var (i := 6) rfl (by first | exact Or.inl rfl | exact Or.inr (Or.inl rfl) | exact Or.inr (Or.inr rfl)))) (ma_cons (me_fz (me_var (i := 7) rfl (by first | exact Or.inl rfl | exact Or.inr (Or.inl rfl) | exact Or.inr (Or.inr rfl)))) ma_nil)) rfl)))) (mss_one (ms_ret (me_mov (i := 3) rfl (by first | exact Or.inl rfl | exact Or.inr (Or.inl rfl) | exact Or.inr (Or.inr rfl)))))))
theorem ck__law_blocks_3 {P : Program} {w : World} {K : PySem.W.Frag} {mg : Str → Option Value} {base : Heap} (W : Wd K mg) : Ck false P w K mg base 1 (He.fAd K ("_law_blocks", none)) 3 [] 3 [0, 1, 2] [] f__law_blocks := by
  obtain ⟨fd, Fd⟩ := fd__law_blocks W
  exact (ok__law_blocks W Fd).ck (Bd.plain (ps := ["elder", "newer", "pairing"]) Fd 3 [] [0, 1, 2] fun _ _ _ _ _ _ us ws h1 h2 => match us, h1, ws, h2 with | [_, _, _], _, [], _ => rfl)
theorem sc__law_by_blocks : FnScope ["blocks", "going", "coming", "a", "b", "c", "d"] ["blocks"] (defScope (top 42)) := ⟨rfl, rfl, rfl, by decide +kernel, rfl, by decide +kernel, by decide +kernel⟩
theorem fd__law_by_blocks {K : PySem.W.Frag} {mg : Str → Option Value} (W : Wd K mg) : ∃ fd, FunD K "_law_by_blocks" "_law_by_blocks" (defArgs (top 42)) (defBody (top 42)) (defScope (top 42)) [] [] (He.fAd K ("_law_by_blocks", none)) fd := W.c.def_ 9 (d := d__law_by_blocks) rfl
theorem kp__law_by_blocks {K : PySem.W.Frag} {mg : Str → Option Value} (W : Wd K mg) : PySem.W.keepIn K (.ref (He.fAd K ("_law_by_blocks", none))) = true := (fd__law_by_blocks W).choose_spec.kp
theorem ok__law_by_blocks {P : Program} {w : World} {K : PySem.W.Frag} {mg : Str → Option Value} {base : Heap} {fd : FuncData} (W : Wd K mg) (Fd : FunD K "_law_by_blocks" "_law_by_blocks" (defArgs (top 42)) (defBody (top 42)) (defScope (top 42)) [] [] (He.fAd K ("_law_by_blocks", none)) fd) :
    FnOg false P w K mg base 1 (He.fAd K ("_law_by_blocks", none)) fd ["blocks"] (spM K 1 f__law_by_blocks) := by
  refine fnog (N := ["blocks", "going", "coming", "a", "b", "c", "d"]) (ps := ["blocks"]) (k := 0) (n := 1) (ro := [false, false, false, false, false, false, false]) (b := b__law_by_blocks) Fd sc__law_by_blocks rfl fun cdv A outer s H E hr hgd => ?_
  have tx := takes_of (X := cxOf (L2.CX P w) P w K mg base ["blocks", "going", "coming", "a", "b", "c", "d"] "_law_by_blocks" (defScope (top 42)) (He.fAd K ("_law_by_blocks", none)) cdv A outer s H E) (E := E) rfl rfl rfl rfl
  unfold b__law_by_blocks F__law_by_blocks_1 L__law_by_blocks_1
  exact (mss_cons (ms_par2 (i := 1) (j := 2) rfl sc__law_by_blocks.nd rfl rfl (by decide) rfl rfl (ma_cons (me_fz (me_lst ma_nil)) (ma_cons (me_fz (me_lst ma_nil)) ma_nil)) rfl) (mss_cons (ms_for (passes_of rfl) rfl (mi_seq (me_var (i := 0) rfl (by first | exact Or.inl rfl | exact Or.inr (Or.inl rfl) | exact Or.inr (Or.inr rfl)))) (mg_tup (n := 4) rfl (mgs_cons (mg_name (i := 3) sc__law_by_blocks.nd rfl (by first | exact Or.inl rfl | exact Or.inr rfl)) (mgs_cons (mg_name (i := 4) sc__law_by_blocks.nd rfl (by first | exact Or.inl rfl | exact Or.inr rfl)) (mgs_cons (mg_name (i := 5) sc__law_by_blocks.nd rfl (by first | exact Or.inl rfl | exact Or.inr rfl)) (mgs_cons (mg_name (i := 6) sc__law_by_blocks.nd rfl (by first | exact Or.inl rfl | exact Or.inr rfl)) mgs_nil))))) (mss_cons (ms_set (i := 1) sc__law_by_blocks.nd rfl (by first | exact Or.inl rfl | exact Or.inr rfl) (me_fz (me_add (me_var (i := 1) rfl (by first | exact Or.inl rfl | exact Or.inr (Or.inl rfl) | exact Or.inr (Or.inr rfl))) (me_lrg2 rfl rfl (W.free 13 (x := "list")) rfl (W.free 8 (x := "range")) (me_add (me_var (i := 3) rfl (by first | exact Or.inl rfl | exact Or.inr (Or.inl rfl) | exact Or.inr (Or.inr rfl))) me_int) (me_add (me_var (i := 4) rfl (by first | exact Or.inl rfl | exact Or.inr (Or.inl rfl) | exact Or.inr (Or.inr rfl))) me_int))))) (mss_one (ms_set (i := 2) sc__law_by_blocks.nd rfl (by first | exact Or.inl rfl | exact Or.inr rfl) (me_fz (me_add (me_var (i := 2) rfl (by first | exact Or.inl rfl | exact Or.inr (Or.inl rfl) | exact Or.inr (Or.inr rfl))) (me_lrg2 rfl rfl (W.free 13 (x := "list")) rfl (W.free 8 (x := "range")) (me_add (me_var (i := 5) rfl (by first | exact Or.inl rfl | exact Or.inr (Or.inl rfl) | exact Or.inr (Or.inr rfl))) me_int) (me_add (me_var (i := 6) rfl (by first | exact Or.inl rfl | exact Or.inr (Or.inl rfl) | exact Or.inr (Or.inr rfl))) me_int)))))))) (mss_one (ms_ret (me_lst (ma_cons (me_var (i := 1) rfl (by first | exact Or.inl rfl | exact Or.inr (Or.inl rfl) | exact Or.inr (Or.inr rfl))) (ma_cons (me_var (i := 2) rfl (by first | exact Or.inl rfl | exact Or.inr (Or.inl rfl) | exact Or.inr (Or.inr rfl))) ma_nil)))))))
theorem ck__law_by_blocks_1 {P : Program} {w : World} {K : PySem.W.Frag} {mg : Str → Option Value} {base : Heap} (W : Wd K mg) : Ck false P w K mg base 1 (He.fAd K ("_law_by_blocks", none)) 1 [] 1 [0] [] f__law_by_blocks := by
  obtain ⟨fd, Fd⟩ := fd__law_by_blocks W
  exact (ok__law_by_blocks W Fd).ck (Bd.plain (ps := ["blocks"]) Fd 1 [] [0] fun _ _ _ _ _ _ us ws h1 h2 => match us, h1, ws, h2 with | [_], _, [], _ => rfl)
theorem sc_is_line : FnScope ["value"] ["value"] (defScope (top 9)) := ⟨rfl, rfl, rfl, by decide +kernel, rfl, by decide +kernel, by decide +kernel⟩
theorem fd_is_line {K : PySem.W.Frag} {mg : Str → Option Value} (W : Wd K mg) : ∃ fd, FunD K "is_line" "is_line" (defArgs (top 9)) (defBody (top 9)) (defScope (top 9)) [] [] (He.fAd K ("is_line", none)) fd := W.c.def_ 10 (d := d_is_line) rfl
theorem kp_is_line {K : PySem.W.Frag} {mg : Str → Option Value} (W : Wd K mg) : PySem.W.keepIn K (.ref (He.fAd K ("is_line", none))) = true := (fd_is_line W).choose_spec.kp
theorem ok_is_line {P : Program} {w : World} {K : PySem.W.Frag} {mg : Str → Option Value} {base : Heap} {fd : FuncData} (W : Wd K mg) (Fd : FunD K "is_line" "is_line" (defArgs (top 9)) (defBody (top 9)) (defScope (top 9)) [] [] (He.fAd K ("is_line", none)) fd) :
    FnOg false P w K mg base 1 (He.fAd K ("is_line", none)) fd ["value"] (spM K 1 f_is_line) := by
  refine fnog (N := ["value"]) (ps := ["value"]) (k := 0) (n := 1) (ro := [false]) (b := b_is_line) Fd sc_is_line rfl fun cdv A outer s H E hr hgd => ?_
  have tx := takes_of (X := cxOf (L2.CX P w) P w K mg base ["value"] "is_line" (defScope (top 9)) (He.fAd K ("is_line", none)) cdv A outer s H E) (E := E) rfl rfl rfl rfl
  unfold b_is_line
  exact (mss_one (ms_ret (me_and (me_isT (T := "str") rfl (W.free 14 (x := "isinstance")) rfl (W.free 15 (x := "str")) boot_str (me_var (i := 0) rfl (by first | exact Or.inl rfl | exact Or.inr (Or.inl rfl) | exact Or.inr (Or.inr rfl)))) (me_one (pe_cmp (mc_nin me_str (me_var (i := 0) rfl (by first | exact Or.inl rfl | exact Or.inr (Or.inl rfl) | exact Or.inr (Or.inr rfl)))))))))
theorem ck_is_line_1 {P : Program} {w : World} {K : PySem.W.Frag} {mg : Str → Option Value} {base : Heap} (W : Wd K mg) : Ck false P w K mg base 1 (He.fAd K ("is_line", none)) 1 [] 1 [0] [] f_is_line := by
  obtain ⟨fd, Fd⟩ := fd_is_line W
  exact (ok_is_line W Fd).ck (Bd.plain (ps := ["value"]) Fd 1 [] [0] fun _ _ _ _ _ _ us ws h1 h2 => match us, h1, ws, h2 with | [_], _, [], _ => rfl)
theorem sc_is_text : FnScope ["value", "line"] ["value"] (defScope (top 10)) := ⟨rfl, rfl, rfl, by decide +kernel, rfl, by decide +kernel, by decide +kernel⟩
theorem fd_is_text {K : PySem.W.Frag} {mg : Str → Option Value} (W : Wd K mg) : ∃ fd, FunD K "is_text" "is_text" (defArgs (top 10)) (defBody (top 10)) (defScope (top 10)) [] [] (He.fAd K ("is_text", none)) fd := W.c.def_ 11 (d := d_is_text) rfl
theorem kp_is_text {K : PySem.W.Frag} {mg : Str → Option Value} (W : Wd K mg) : PySem.W.keepIn K (.ref (He.fAd K ("is_text", none))) = true := (fd_is_text W).choose_spec.kp
theorem ok_is_text {P : Program} {w : World} {K : PySem.W.Frag} {mg : Str → Option Value} {base : Heap} {fd : FuncData} (W : Wd K mg) (Fd : FunD K "is_text" "is_text" (defArgs (top 10)) (defBody (top 10)) (defScope (top 10)) [] [] (He.fAd K ("is_text", none)) fd) :
    FnOg false P w K mg base 2 (He.fAd K ("is_text", none)) fd ["value"] (spM K 1 f_is_text) := by
  refine fnog (N := ["value", "line"]) (ps := ["value"]) (k := 1) (n := 1) (ro := [false, false]) (b := b_is_text) Fd sc_is_text rfl fun cdv A outer s H E hr hgd => ?_
  have tx := takes_of (X := cxOf (L2.CX P w) P w K mg base ["value", "line"] "is_text" (defScope (top 10)) (He.fAd K ("is_text", none)) cdv A outer s H E) (E := E) rfl rfl rfl rfl
  unfold b_is_text
  exact (mss_one (ms_ret (me_and (me_isT2 (T := "list") (T2 := "tuple") rfl (W.free 14 (x := "isinstance")) rfl (W.free 13 (x := "list")) boot_list rfl (W.free 12 (x := "tuple")) boot_tuple (me_var (i := 0) rfl (by first | exact Or.inl rfl | exact Or.inr (Or.inl rfl) | exact Or.inr (Or.inr rfl)))) (me_and (pe_cmp (mc_le (me_b1 b_len rfl (W.free 1 (x := "len")) boot_len (me_var (i := 0) rfl (by first | exact Or.inl rfl | exact Or.inr (Or.inl rfl) | exact Or.inr (Or.inr rfl)))) (me_gint rfl (He.int_ok W.X W.G (W.f 16))))) (me_one (me_b1 (b_all rfl) rfl (W.free 18 (x := "all")) boot_all (me_lc (n := 2) (own := [("line", 1)]) rfl sc_is_text.nd (mi_seq (me_var (i := 0) rfl (by first | exact Or.inl rfl | exact Or.inr (Or.inl rfl) | exact Or.inr (Or.inr rfl)))) (blkOk_by (own := [("line", 1)]) rfl) gl_name (fun _ _ _ _ _ => (mg_name (i := 1) sc_is_text.nd rfl (by first | exact Or.inl rfl | exact Or.inr rfl))) (fun _ _ _ _ _ => (me_call (g := ⟨1, 1, [false], [0], []⟩) ((ck_is_line_1 W).mono (k := 1) (by decide)) hr (fun z => nomatch z) takesF rfl (W.glo 17 (x := "is_line")) (kp_is_line W) (fun G => by simp [FL]) (ma_cons (me_var (i := 1) rfl (by first | exact Or.inl rfl | exact Or.inr (Or.inl rfl) | exact Or.inr (Or.inr rfl))) ma_nil))))))))))
theorem ck_is_text_1 {P : Program} {w : World} {K : PySem.W.Frag} {mg : Str → Option Value} {base : Heap} (W : Wd K mg) : Ck false P w K mg base 2 (He.fAd K ("is_text", none)) 1 [] 1 [0] [] f_is_text := by
  obtain ⟨fd, Fd⟩ := fd_is_text W
  exact (ok_is_text W Fd).ck (Bd.plain (ps := ["value"]) Fd 1 [] [0] fun _ _ _ _ _ _ us ws h1 h2 => match us, h1, ws, h2 with | [_], _, [], _ => rfl)
theorem sc_check_text : FnScope ["value"] ["value"] (defScope (top 11)) := ⟨rfl, rfl, rfl, by decide +kernel, rfl, by decide +kernel, by decide +kernel⟩
theorem fd_check_text {K : PySem.W.Frag} {mg : Str → Option Value} (W : Wd K mg) : ∃ fd, FunD K "check_text" "check_text" (defArgs (top 11)) (defBody (top 11)) (defScope (top 11)) [] [] (He.fAd K ("check_text", none)) fd := W.c.def_ 12 (d := d_check_text) rfl
theorem kp_check_text {K : PySem.W.Frag} {mg : Str → Option Value} (W : Wd K mg) : PySem.W.keepIn K (.ref (He.fAd K ("check_text", none))) = true := (fd_check_text W).choose_spec.kp
theorem ok_check_text {P : Program} {w : World} {K : PySem.W.Frag} {mg : Str → Option Value} {base : Heap} {fd : FuncData} (W : Wd K mg) (Fd : FunD K "check_text" "check_text" (defArgs (top 11)) (defBody (top 11)) (defScope (top 11)) [] [] (He.fAd K ("check_text", none)) fd) :
    FnOg false P w K mg base 3 (He.fAd K ("check_text", none)) fd ["value"] (spM K 1 f_check_text) := by
  refine fnog (N := ["value"]) (ps := ["value"]) (k := 2) (n := 1) (ro := [false]) (b := b_check_text) Fd sc_check_text rfl fun cdv A outer s H E hr hgd => ?_
  have tx := takes_of (X := cxOf (L2.CX P w) P w K mg base ["value"] "check_text" (defScope (top 11)) (He.fAd K ("check_text", none)) cdv A outer s H E) (E := E) rfl rfl rfl rfl
  unfold b_check_text
  exact (mss_one (ms_if (mt_not (mt_val (me_call (g := ⟨1, 1, [false], [0], []⟩) ((ck_is_text_1 W).mono (k := 2) (by decide)) hr (fun z => nomatch z) tx rfl (W.glo 19 (x := "is_text")) (kp_is_text W) (fun G => by simp [FL]) (ma_cons (me_var (i := 0) rfl (by first | exact Or.inl rfl | exact Or.inr (Or.inl rfl) | exact Or.inr (Or.inr rfl))) ma_nil)))) mss_bad mss_nil))
theorem ck_check_text_1 {P : Program} {w : World} {K : PySem.W.Frag} {mg : Str → Option Value} {base : Heap} (W : Wd K mg) : Ck false P w K mg base 3 (He.fAd K ("check_text", none)) 1 [] 1 [0] [] f_check_text := by
  obtain ⟨fd, Fd⟩ := fd_check_text W
  exact (ok_check_text W Fd).ck (Bd.plain (ps := ["value"]) Fd 1 [] [0] fun _ _ _ _ _ _ us ws h1 h2 => match us, h1, ws, h2 with | [_], _, [], _ => rfl)
theorem sc_check_texts : FnScope ["values", "value"] ["values"] (defScope (top 12)) := ⟨rfl, rfl, rfl, by decide +kernel, rfl, by decide +kernel, by decide +kernel⟩
theorem fd_check_texts {K : PySem.W.Frag} {mg : Str → Option Value} (W : Wd K mg) : ∃ fd, FunD K "check_texts" "check_texts" (defArgs (top 12)) (defBody (top 12)) (defScope (top 12)) [] [] (He.fAd K ("check_texts", none)) fd := W.c.def_ 13 (d := d_check_texts) rfl
theorem kp_check_texts {K : PySem.W.Frag} {mg : Str → Option Value} (W : Wd K mg) : PySem.W.keepIn K (.ref (He.fAd K ("check_texts", none))) = true := (fd_check_texts W).choose_spec.kp
theorem ck_check_texts_2 {P : Program} {w : World} {K : PySem.W.Frag} {mg : Str → Option Value} {base : Heap} (W : Wd K mg) : FnCk false P w K mg base 4 (He.fAd K ("check_texts", none)) 2 [] (spStar K 0 f_check_texts) := by
  obtain ⟨fd, Fd⟩ := fd_check_texts W
  refine fnStar (N := ["values", "value"]) (ps := []) (k := 3) (ro := [false, false]) (b := b_check_texts) 2 Fd sc_check_texts (fun _ _ _ _ _ _ us rest hl => match us, hl, rest with | [], _, [] => rfl | [], _, _ :: _ => rfl) fun cdv A outer s H E hr => ?_
  have tx := takes_of (X := cxOf (L2.CX P w) P w K mg base ["values", "value"] "check_texts" (defScope (top 12)) (He.fAd K ("check_texts", none)) cdv A outer s H E) (E := E) rfl rfl rfl rfl
  unfold b_check_texts
  exact (mss_one (ms_for (passes_of rfl) rfl (mi_seq (me_var (i := 0) rfl (by first | exact Or.inl rfl | exact Or.inr (Or.inl rfl) | exact Or.inr (Or.inr rfl)))) (mg_name (i := 1) sc_check_texts.nd rfl (by first | exact Or.inl rfl | exact Or.inr rfl)) (mss_one (ms_expr (me_call (g := ⟨1, 1, [false], [0], []⟩) ((ck_check_text_1 W).mono (k := 3) (by decide)) hr (fun z => nomatch z) tx rfl (W.glo 20 (x := "check_text")) (kp_check_text W) (fun G => by simp [FL]) (ma_cons (me_var (i := 1) rfl (by first | exact Or.inl rfl | exact Or.inr (Or.inl rfl) | exact Or.inr (Or.inr rfl))) ma_nil))))))
theorem sc_is_integer : FnScope ["value", "least", "most"] ["value", "least", "most"] (defScope (top 20)) := ⟨rfl, rfl, rfl, by decide +kernel, rfl, by decide +kernel, by decide +kernel⟩
theorem fd_is_integer {K : PySem.W.Frag} {mg : Str → Option Value} (W : Wd K mg) : ∃ fd, FunD K "is_integer" "is_integer" (defArgs (top 20)) (defBody (top 20)) (defScope (top 20)) [] [] (He.fAd K ("is_integer", none)) fd := W.c.def_ 14 (d := d_is_integer) rfl
theorem kp_is_integer {K : PySem.W.Frag} {mg : Str → Option Value} (W : Wd K mg) : PySem.W.keepIn K (.ref (He.fAd K ("is_integer", none))) = true := (fd_is_integer W).choose_spec.kp
theorem ok_is_integer {P : Program} {w : World} {K : PySem.W.Frag} {mg : Str → Option Value} {base : Heap} {fd : FuncData} (W : Wd K mg) (Fd : FunD K "is_integer" "is_integer" (defArgs (top 20)) (defBody (top 20)) (defScope (top 20)) [] [] (He.fAd K ("is_integer", none)) fd) :
    FnOg false P w K mg base 1 (He.fAd K ("is_integer", none)) fd ["value", "least", "most"] (spM K 3 f_is_integer) := by
  refine fnog (N := ["value", "least", "most"]) (ps := ["value", "least", "most"]) (k := 0) (n := 3) (ro := [false, false, false]) (b := b_is_integer) Fd sc_is_integer rfl fun cdv A outer s H E hr hgd => ?_
  have tx := takes_of (X := cxOf (L2.CX P w) P w K mg base ["value", "least", "most"] "is_integer" (defScope (top 20)) (He.fAd K ("is_integer", none)) cdv A outer s H E) (E := E) rfl rfl rfl rfl
  unfold b_is_integer
  exact (mss_one (ms_ret (me_and (me_isT (T := "int") rfl (W.free 14 (x := "isinstance")) rfl (W.free 4 (x := "int")) boot_int (me_var (i := 0) rfl (by first | exact Or.inl rfl | exact Or.inr (Or.inl rfl) | exact Or.inr (Or.inr rfl)))) (me_and (me_not (me_isT (T := "bool") rfl (W.free 14 (x := "isinstance")) rfl (W.free 21 (x := "bool")) boot_bool (me_var (i := 0) rfl (by first | exact Or.inl rfl | exact Or.inr (Or.inl rfl) | exact Or.inr (Or.inr rfl))))) (me_one (me_chain op_le op_le (me_var (i := 1) rfl (by first | exact Or.inl rfl | exact Or.inr (Or.inl rfl) | exact Or.inr (Or.inr rfl))) (me_var (i := 0) rfl (by first | exact Or.inl rfl | exact Or.inr (Or.inl rfl) | exact Or.inr (Or.inr rfl))) (me_var (i := 2) rfl (by first | exact Or.inl rfl | exact Or.inr (Or.inl rfl) | exact Or.inr (Or.inr rfl)))))))))
theorem ck_is_integer_3 {P : Program} {w : World} {K : PySem.W.Frag} {mg : Str → Option Value} {base : Heap} (W : Wd K mg) : Ck false P w K mg base 1 (He.fAd K ("is_integer", none)) 3 [] 3 [0, 1, 2] [] f_is_integer := by
  obtain ⟨fd, Fd⟩ := fd_is_integer W
  exact (ok_is_integer W Fd).ck (Bd.plain (ps := ["value", "least", "most"]) Fd 3 [] [0, 1, 2] fun _ _ _ _ _ _ us ws h1 h2 => match us, h1, ws, h2 with | [_, _, _], _, [], _ => rfl)
theorem sc_is_pair : FnScope ["old", "new", "value"] ["old", "new", "value"] (defScope (top 21)) := ⟨rfl, rfl, rfl, by decide +kernel, rfl, by decide +kernel, by decide +kernel⟩
theorem fd_is_pair {K : PySem.W.Frag} {mg : Str → Option Value} (W : Wd K mg) : ∃ fd, FunD K "is_pair" "is_pair" (defArgs (top 21)) (defBody (top 21)) (defScope (top 21)) [] [] (He.fAd K ("is_pair", none)) fd := W.c.def_ 15 (d := d_is_pair) rfl
theorem kp_is_pair {K : PySem.W.Frag} {mg : Str → Option Value} (W : Wd K mg) : PySem.W.keepIn K (.ref (He.fAd K ("is_pair", none))) = true := (fd_is_pair W).choose_spec.kp
theorem ok_is_pair {P : Program} {w : World} {K : PySem.W.Frag} {mg : Str → Option Value} {base : Heap} {fd : FuncData} (W : Wd K mg) (Fd : FunD K "is_pair" "is_pair" (defArgs (top 21)) (defBody (top 21)) (defScope (top 21)) [] [] (He.fAd K ("is_pair", none)) fd) :
    FnOg false P w K mg base 2 (He.fAd K ("is_pair", none)) fd ["old", "new", "value"] (spM K 3 f_is_pair) := by
  refine fnog (N := ["old", "new", "value"]) (ps := ["old", "new", "value"]) (k := 1) (n := 3) (ro := [false, false, false]) (b := b_is_pair) Fd sc_is_pair rfl fun cdv A outer s H E hr hgd => ?_
  have tx := takes_of (X := cxOf (L2.CX P w) P w K mg base ["old", "new", "value"] "is_pair" (defScope (top 21)) (He.fAd K ("is_pair", none)) cdv A outer s H E) (E := E) rfl rfl rfl rfl
  unfold b_is_pair
  exact (mss_cons (ms_if (PW.pt (mw_or (mt_not (mt_val (me_isT (T := "tuple") rfl (W.free 14 (x := "isinstance")) rfl (W.free 12 (x := "tuple")) boot_tuple (me_var (i := 2) rfl (by first | exact Or.inl rfl | exact Or.inr (Or.inl rfl) | exact Or.inr (Or.inr rfl)))))) (mw_or1 (mtB (pt_cmp (mc_ne hr.units (me_b1 b_len rfl (W.free 1 (x := "len")) boot_len (me_var (i := 2) rfl (by first | exact Or.inl rfl | exact Or.inr (Or.inl rfl) | exact Or.inr (Or.inr rfl)))) me_int)))))) (mss_one (ms_ret me_bl)) mss_nil) (mss_cons (ms_if (PW.pt (mw_or (mt_not (mt_val (me_call (g := ⟨3, 3, [false, false, false], [0, 1, 2], []⟩) ((ck_is_integer_3 W).mono (k := 1) (by decide)) hr (fun z => nomatch z) tx rfl (W.glo 22 (x := "is_integer")) (kp_is_integer W) (fun G => by simp [FL]) (ma_cons (me_sx (me_var (i := 2) rfl (by first | exact Or.inl rfl | exact Or.inr (Or.inl rfl) | exact Or.inr (Or.inr rfl))) me_int) (ma_cons me_int (ma_cons (me_b1 b_len rfl (W.free 1 (x := "len")) boot_len (me_var (i := 0) rfl (by first | exact Or.inl rfl | exact Or.inr (Or.inl rfl) | exact Or.inr (Or.inr rfl)))) ma_nil)))))) (mw_or1 (mt_not (mt_val (me_call (g := ⟨3, 3, [false, false, false], [0, 1, 2], []⟩) ((ck_is_integer_3 W).mono (k := 1) (by decide)) hr (fun z => nomatch z) tx rfl (W.glo 22 (x := "is_integer")) (kp_is_integer W) (fun G => by simp [FL]) (ma_cons (me_sx (me_var (i := 2) rfl (by first | exact Or.inl rfl | exact Or.inr (Or.inl rfl) | exact Or.inr (Or.inr rfl))) me_int) (ma_cons me_int (ma_cons (me_b1 b_len rfl (W.free 1 (x := "len")) boot_len (me_var (i := 1) rfl (by first | exact Or.inl rfl | exact Or.inr (Or.inl rfl) | exact Or.inr (Or.inr rfl)))) ma_nil))))))))) (mss_one (ms_ret me_bl)) mss_nil) (mss_one (ms_ret (pe_cmp (mc_eq hr.units (me_sx (me_var (i := 0) rfl (by first | exact Or.inl rfl | exact Or.inr (Or.inl rfl) | exact Or.inr (Or.inr rfl))) (me_sub (me_sx (me_var (i := 2) rfl (by first | exact Or.inl rfl | exact Or.inr (Or.inl rfl) | exact Or.inr (Or.inr rfl))) me_int) me_int)) (me_sx (me_var (i := 1) rfl (by first | exact Or.inl rfl | exact Or.inr (Or.inl rfl) | exact Or.inr (Or.inr rfl))) (me_sub (me_sx (me_var (i := 2) rfl (by first | exact Or.inl rfl | exact Or.inr (Or.inl rfl) | exact Or.inr (Or.inr rfl))) me_int) me_int))))))))
theorem ck_is_pair_3 {P : Program} {w : World} {K : PySem.W.Frag} {mg : Str → Option Value} {base : Heap} (W : Wd K mg) : Ck false P w K mg base 2 (He.fAd K ("is_pair", none)) 3 [] 3 [0, 1, 2] [] f_is_pair := by
  obtain ⟨fd, Fd⟩ := fd_is_pair W
  exact (ok_is_pair W Fd).ck (Bd.plain (ps := ["old", "new", "value"]) Fd 3 [] [0, 1, 2] fun _ _ _ _ _ _ us ws h1 h2 => match us, h1, ws, h2 with | [_, _, _], _, [], _ => rfl)
theorem sc_has_form : FnScope ["old", "new", "value", "one", "other", "pair"] ["old", "new", "value"] (defScope (top 22)) := ⟨rfl, rfl, rfl, by decide +kernel, rfl, by decide +kernel, by decide +kernel⟩
theorem fd_has_form {K : PySem.W.Frag} {mg : Str → Option Value} (W : Wd K mg) : ∃ fd, FunD K "has_form" "has_form" (defArgs (top 22)) (defBody (top 22)) (defScope (top 22)) [] [] (He.fAd K ("has_form", none)) fd := W.c.def_ 16 (d := d_has_form) rfl
theorem kp_has_form {K : PySem.W.Frag} {mg : Str → Option Value} (W : Wd K mg) : PySem.W.keepIn K (.ref (He.fAd K ("has_form", none))) = true := (fd_has_form W).choose_spec.kp
theorem ok_has_form {P : Program} {w : World} {K : PySem.W.Frag} {mg : Str → Option Value} {base : Heap} {fd : FuncData} (W : Wd K mg) (Fd : FunD K "has_form" "has_form" (defArgs (top 22)) (defBody (top 22)) (defScope (top 22)) [] [] (He.fAd K ("has_form", none)) fd) :
    FnOg false P w K mg base 3 (He.fAd K ("has_form", none)) fd ["old", "new", "value"] (spM K 3 f_has_form) := by
  refine fnog (N := ["old", "new", "value", "one", "other", "pair"]) (ps := ["old", "new", "value"]) (k := 2) (n := 3) (ro := [false, false, false, false, false, false]) (b := b_has_form) Fd sc_has_form rfl fun cdv A outer s H E hr hgd => ?_
  have tx := takes_of (X := cxOf (L2.CX P w) P w K mg base ["old", "new", "value", "one", "other", "pair"] "has_form" (defScope (top 22)) (He.fAd K ("has_form", none)) cdv A outer s H E) (E := E) rfl rfl rfl rfl
  unfold b_has_form
  exact (mss_cons (ms_if (PW.pt (mw_or (mt_not (mt_val (me_isT (T := "tuple") rfl (W.free 14 (x := "isinstance")) rfl (W.free 12 (x := "tuple")) boot_tuple (me_var (i := 2) rfl (by first | exact Or.inl rfl | exact Or.inr (Or.inl rfl) | exact Or.inr (Or.inr rfl)))))) (mw_or1 (mt_not (mt_val (me_b1 (b_all rfl) rfl (W.free 18 (x := "all")) boot_all (me_lc (n := 6) (own := [("pair", 5)]) rfl sc_has_form.nd (mi_seq (me_var (i := 2) rfl (by first | exact Or.inl rfl | exact Or.inr (Or.inl rfl) | exact Or.inr (Or.inr rfl)))) (blkOk_by (own := [("pair", 5)]) rfl) gl_name (fun _ _ _ _ _ => (mg_name (i := 5) sc_has_form.nd rfl (by first | exact Or.inl rfl | exact Or.inr rfl))) (fun _ _ _ _ _ => (me_call (g := ⟨3, 3, [false, false, false], [0, 1, 2], []⟩) ((ck_is_pair_3 W).mono (k := 2) (by decide)) hr (fun z => nomatch z) takesF rfl (W.glo 23 (x := "is_pair")) (kp_is_pair W) (fun G => by simp [FL]) (ma_cons (me_var (i := 0) rfl (by first | exact Or.inl rfl | exact Or.inr (Or.inl rfl) | exact Or.inr (Or.inr rfl))) (ma_cons (me_var (i := 1) rfl (by first | exact Or.inl rfl | exact Or.inr (Or.inl rfl) | exact Or.inr (Or.inr rfl))) (ma_cons (me_var (i := 5) rfl (by first | exact Or.inl rfl | exact Or.inr (Or.inl rfl) | exact Or.inr (Or.inr rfl))) ma_nil)))))))))))) (mss_one (ms_ret me_bl)) mss_nil) (mss_one (ms_ret (me_b1 (b_all rfl) rfl (W.free 18 (x := "all")) boot_all (me_lc (n := 6) (own := [("one", 3), ("other", 4)]) rfl sc_has_form.nd (mi_zipS rfl (W.free 24 (x := "zip")) (me_var (i := 2) rfl (by first | exact Or.inl rfl | exact Or.inr (Or.inl rfl) | exact Or.inr (Or.inr rfl))) (me_sl (me_var (i := 2) rfl (by first | exact Or.inl rfl | exact Or.inr (Or.inl rfl) | exact Or.inr (Or.inr rfl))) (mo_some me_int) mo_none)) (blkOk_by (own := [("one", 3), ("other", 4)]) rfl) (gl_tup (gsl_cons gl_name (gsl_cons gl_name gsl_nil))) (fun _ _ _ _ _ => (mg_tup (n := 2) rfl (mgs_cons (mg_name (i := 3) sc_has_form.nd rfl (by first | exact Or.inl rfl | exact Or.inr rfl)) (mgs_cons (mg_name (i := 4) sc_has_form.nd rfl (by first | exact Or.inl rfl | exact Or.inr rfl)) mgs_nil)))) (fun _ _ _ _ _ => (me_and (pe_cmp (mc_lt hr.units0 (me_sx (me_var (i := 3) rfl (by first | exact Or.inl rfl | exact Or.inr (Or.inl rfl) | exact Or.inr (Or.inr rfl))) me_int) (me_sx (me_var (i := 4) rfl (by first | exact Or.inl rfl | exact Or.inr (Or.inl rfl) | exact Or.inr (Or.inr rfl))) me_int))) (me_one (pe_cmp (mc_lt hr.units0 (me_sx (me_var (i := 3) rfl (by first | exact Or.inl rfl | exact Or.inr (Or.inl rfl) | exact Or.inr (Or.inr rfl))) me_int) (me_sx (me_var (i := 4) rfl (by first | exact Or.inl rfl | exact Or.inr (Or.inl rfl) | exact Or.inr (Or.inr rfl))) me_int)))))))))))
theorem ck_has_form_3 {P : Program} {w : World} {K : PySem.W.Frag} {mg : Str → Option Value} {base : Heap} (W : Wd K mg) : Ck false P w K mg base 3 (He.fAd K ("has_form", none)) 3 [] 3 [0, 1, 2] [] f_has_form := by
  obtain ⟨fd, Fd⟩ := fd_has_form W
  exact (ok_has_form W Fd).ck (Bd.plain (ps := ["old", "new", "value"]) Fd 3 [] [0, 1, 2] fun _ _ _ _ _ _ us ws h1 h2 => match us, h1, ws, h2 with | [_, _, _], _, [], _ => rfl)
theorem sc_is_diff : FnScope ["old", "new", "value"] ["old", "new", "value"] (defScope (top 23)) := ⟨rfl, rfl, rfl, by decide +kernel, rfl, by decide +kernel, by decide +kernel⟩
theorem fd_is_diff {K : PySem.W.Frag} {mg : Str → Option Value} (W : Wd K mg) : ∃ fd, FunD K "is_diff" "is_diff" (defArgs (top 23)) (defBody (top 23)) (defScope (top 23)) [] [] (He.fAd K ("is_diff", none)) fd := W.c.def_ 17 (d := d_is_diff) rfl
theorem kp_is_diff {K : PySem.W.Frag} {mg : Str → Option Value} (W : Wd K mg) : PySem.W.keepIn K (.ref (He.fAd K ("is_diff", none))) = true := (fd_is_diff W).choose_spec.kp
theorem ok_is_diff {P : Program} {w : World} {K : PySem.W.Frag} {mg : Str → Option Value} {base : Heap} {fd : FuncData} (W : Wd K mg) (Fd : FunD K "is_diff" "is_diff" (defArgs (top 23)) (defBody (top 23)) (defScope (top 23)) [] [] (He.fAd K ("is_diff", none)) fd) :
    FnOg false P w K mg base 5 (He.fAd K ("is_diff", none)) fd ["old", "new", "value"] (spM K 3 f_is_diff) := by
  refine fnog (N := ["old", "new", "value"]) (ps := ["old", "new", "value"]) (k := 4) (n := 3) (ro := [false, false, false]) (b := b_is_diff) Fd sc_is_diff rfl fun cdv A outer s H E hr hgd => ?_
  have tx := takes_of (X := cxOf (L2.CX P w) P w K mg base ["old", "new", "value"] "is_diff" (defScope (top 23)) (He.fAd K ("is_diff", none)) cdv A outer s H E) (E := E) rfl rfl rfl rfl
  unfold b_is_diff
  exact (mss_cons (ms_expr (me_callS ((ck_check_texts_2 W).mono (k := 4) (by decide)) hr (fun z => nomatch z) tx rfl (W.glo 25 (x := "check_texts")) (kp_check_texts W) (ma_cons (me_var (i := 0) rfl (by first | exact Or.inl rfl | exact Or.inr (Or.inl rfl) | exact Or.inr (Or.inr rfl))) (ma_cons (me_var (i := 1) rfl (by first | exact Or.inl rfl | exact Or.inr (Or.inl rfl) | exact Or.inr (Or.inr rfl))) ma_nil)))) (mss_one (ms_ret (me_call (g := ⟨3, 3, [false, false, false], [0, 1, 2], []⟩) ((ck_has_form_3 W).mono (k := 4) (by decide)) hr (fun z => nomatch z) tx rfl (W.glo 26 (x := "has_form")) (kp_has_form W) (fun G => by simp [FL]) (ma_cons (me_var (i := 0) rfl (by first | exact Or.inl rfl | exact Or.inr (Or.inl rfl) | exact Or.inr (Or.inr rfl))) (ma_cons (me_var (i := 1) rfl (by first | exact Or.inl rfl | exact Or.inr (Or.inl rfl) | exact Or.inr (Or.inr rfl))) (ma_cons (me_var (i := 2) rfl (by first | exact Or.inl rfl | exact Or.inr (Or.inl rfl) | exact Or.inr (Or.inr rfl))) ma_nil)))))))
theorem ck_is_diff_3 {P : Program} {w : World} {K : PySem.W.Frag} {mg : Str → Option Value} {base : Heap} (W : Wd K mg) : Ck false P w K mg base 5 (He.fAd K ("is_diff", none)) 3 [] 3 [0, 1, 2] [] f_is_diff := by
  obtain ⟨fd, Fd⟩ := fd_is_diff W
  exact (ok_is_diff W Fd).ck (Bd.plain (ps := ["old", "new", "value"]) Fd 3 [] [0, 1, 2] fun _ _ _ _ _ _ us ws h1 h2 => match us, h1, ws, h2 with | [_, _, _], _, [], _ => rfl)
theorem sc_check_diff : FnScope ["old", "new", "value"] ["old", "new", "value"] (defScope (top 24)) := ⟨rfl, rfl, rfl, by decide +kernel, rfl, by decide +kernel, by decide +kernel⟩
theorem fd_check_diff {K : PySem.W.Frag} {mg : Str → Option Value} (W : Wd K mg) : ∃ fd, FunD K "check_diff" "check_diff" (defArgs (top 24)) (defBody (top 24)) (defScope (top 24)) [] [] (He.fAd K ("check_diff", none)) fd := W.c.def_ 18 (d := d_check_diff) rfl
theorem kp_check_diff {K : PySem.W.Frag} {mg : Str → Option Value} (W : Wd K mg) : PySem.W.keepIn K (.ref (He.fAd K ("check_diff", none))) = true := (fd_check_diff W).choose_spec.kp
theorem ok_check_diff {P : Program} {w : World} {K : PySem.W.Frag} {mg : Str → Option Value} {base : Heap} {fd : FuncData} (W : Wd K mg) (Fd : FunD K "check_diff" "check_diff" (defArgs (top 24)) (defBody (top 24)) (defScope (top 24)) [] [] (He.fAd K ("check_diff", none)) fd) :
    FnOg false P w K mg base 6 (He.fAd K ("check_diff", none)) fd ["old", "new", "value"] (spM K 3 f_check_diff) := by
  refine fnog (N := ["old", "new", "value"]) (ps := ["old", "new", "value"]) (k := 5) (n := 3) (ro := [false, false, false]) (b := b_check_diff) Fd sc_check_diff rfl fun cdv A outer s H E hr hgd => ?_
  have tx := takes_of (X := cxOf (L2.CX P w) P w K mg base ["old", "new", "value"] "check_diff" (defScope (top 24)) (He.fAd K ("check_diff", none)) cdv A outer s H E) (E := E) rfl rfl rfl rfl
  unfold b_check_diff
  exact (mss_one (ms_if (mt_not (mt_val (me_call (g := ⟨3, 3, [false, false, false], [0, 1, 2], []⟩) ((ck_is_diff_3 W).mono (k := 5) (by decide)) hr (fun z => nomatch z) tx rfl (W.glo 27 (x := "is_diff")) (kp_is_diff W) (fun G => by simp [FL]) (ma_cons (me_var (i := 0) rfl (by first | exact Or.inl rfl | exact Or.inr (Or.inl rfl) | exact Or.inr (Or.inr rfl))) (ma_cons (me_var (i := 1) rfl (by first | exact Or.inl rfl | exact Or.inr (Or.inl rfl) | exact Or.inr (Or.inr rfl))) (ma_cons (me_var (i := 2) rfl (by first | exact Or.inl rfl | exact Or.inr (Or.inl rfl) | exact Or.inr (Or.inr rfl))) ma_nil)))))) mss_bad mss_nil))
theorem ck_check_diff_3 {P : Program} {w : World} {K : PySem.W.Frag} {mg : Str → Option Value} {base : Heap} (W : Wd K mg) : Ck false P w K mg base 6 (He.fAd K ("check_diff", none)) 3 [] 3 [0, 1, 2] [] f_check_diff := by
  obtain ⟨fd, Fd⟩ := fd_check_diff W
  exact (ok_check_diff W Fd).ck (Bd.plain (ps := ["old", "new", "value"]) Fd 3 [] [0, 1, 2] fun _ _ _ _ _ _ us ws h1 h2 => match us, h1, ws, h2 with | [_, _, _], _, [], _ => rfl)
theorem sc_blocks_of : FnScope ["old", "new", "diff", "found", "a", "c", "i", "j"] ["old", "new", "diff"] (defScope (top 25)) := ⟨rfl, rfl, rfl, by decide +kernel, rfl, by decide +kernel, by decide +kernel⟩
theorem fd_blocks_of {K : PySem.W.Frag} {mg : Str → Option Value} (W : Wd K mg) : ∃ fd, FunD K "blocks_of" "blocks_of" (defArgs (top 25)) (defBody (top 25)) (defScope (top 25)) [] [] (He.fAd K ("blocks_of", none)) fd := W.c.def_ 19 (d := d_blocks_of) rfl
theorem kp_blocks_of {K : PySem.W.Frag} {mg : Str → Option Value} (W : Wd K mg) : PySem.W.keepIn K (.ref (He.fAd K ("blocks_of", none))) = true := (fd_blocks_of W).choose_spec.kp
theorem ok_blocks_of {P : Program} {w : World} {K : PySem.W.Frag} {mg : Str → Option Value} {base : Heap} {fd : FuncData} (W : Wd K mg) (Fd : FunD K "blocks_of" "blocks_of" (defArgs (top 25)) (defBody (top 25)) (defScope (top 25)) [] [] (He.fAd K ("blocks_of", none)) fd) :
    FnOg false P w K mg base 7 (He.fAd K ("blocks_of", none)) fd ["old", "new", "diff"] (spM K 3 f_blocks_of) := by
  refine fnog (N := ["old", "new", "diff", "found", "a", "c", "i", "j"]) (ps := ["old", "new", "diff"]) (k := 6) (n := 3) (ro := [false, false, false, false, false, false, false, false]) (b := b_blocks_of) Fd sc_blocks_of rfl fun cdv A outer s H E hr hgd => ?_
  have tx := takes_of (X := cxOf (L2.CX P w) P w K mg base ["old", "new", "diff", "found", "a", "c", "i", "j"] "blocks_of" (defScope (top 25)) (He.fAd K ("blocks_of", none)) cdv A outer s H E) (E := E) rfl rfl rfl rfl
  unfold b_blocks_of
  exact (mss_cons (ms_expr (me_call (g := ⟨3, 3, [false, false, false], [0, 1, 2], []⟩) ((ck_check_diff_3 W).mono (k := 6) (by decide)) hr (fun z => nomatch z) tx rfl (W.glo 28 (x := "check_diff")) (kp_check_diff W) (fun G => by simp [FL]) (ma_cons (me_var (i := 0) rfl (by first | exact Or.inl rfl | exact Or.inr (Or.inl rfl) | exact Or.inr (Or.inr rfl))) (ma_cons (me_var (i := 1) rfl (by first | exact Or.inl rfl | exact Or.inr (Or.inl rfl) | exact Or.inr (Or.inr rfl))) (ma_cons (me_var (i := 2) rfl (by first | exact Or.inl rfl | exact Or.inr (Or.inl rfl) | exact Or.inr (Or.inr rfl))) ma_nil))))) (mss_cons (ms_set (i := 3) sc_blocks_of.nd rfl (by first | exact Or.inl rfl | exact Or.inr rfl) (me_lst ma_nil)) (mss_cons (ms_asg (me_tup (ma_cons me_int (ma_cons me_int ma_nil))) (mg_tup (n := 2) rfl (mgs_cons (mg_name (i := 4) sc_blocks_of.nd rfl (by first | exact Or.inl rfl | exact Or.inr rfl)) (mgs_cons (mg_name (i := 5) sc_blocks_of.nd rfl (by first | exact Or.inl rfl | exact Or.inr rfl)) mgs_nil)))) (mss_cons (ms_for (passes_of rfl) rfl (mi_seq (me_add (me_var (i := 2) rfl (by first | exact Or.inl rfl | exact Or.inr (Or.inl rfl) | exact Or.inr (Or.inr rfl))) (me_tup (ma_cons (me_tup (ma_cons (me_add (me_b1 b_len rfl (W.free 1 (x := "len")) boot_len (me_var (i := 0) rfl (by first | exact Or.inl rfl | exact Or.inr (Or.inl rfl) | exact Or.inr (Or.inr rfl)))) me_int) (ma_cons (me_add (me_b1 b_len rfl (W.free 1 (x := "len")) boot_len (me_var (i := 1) rfl (by first | exact Or.inl rfl | exact Or.inr (Or.inl rfl) | exact Or.inr (Or.inr rfl)))) me_int) ma_nil))) ma_nil)))) (mg_tup (n := 2) rfl (mgs_cons (mg_name (i := 6) sc_blocks_of.nd rfl (by first | exact Or.inl rfl | exact Or.inr rfl)) (mgs_cons (mg_name (i := 7) sc_blocks_of.nd rfl (by first | exact Or.inl rfl | exact Or.inr rfl)) mgs_nil))) (mss_cons (ms_if (mtB (pt_cmp (mc_ne hr.units (me_tup (ma_cons (me_var (i := 4) rfl (by first | exact Or.inl rfl | exact Or.inr (Or.inl rfl) | exact Or.inr (Or.inr rfl))) (ma_cons (me_var (i := 5) rfl (by first | exact Or.inl rfl | exact Or.inr (Or.inl rfl) | exact Or.inr (Or.inr rfl))) ma_nil))) (me_tup (ma_cons (me_sub (me_var (i := 6) rfl (by first | exact Or.inl rfl | exact Or.inr (Or.inl rfl) | exact Or.inr (Or.inr rfl))) me_int) (ma_cons (me_sub (me_var (i := 7) rfl (by first | exact Or.inl rfl | exact Or.inr (Or.inl rfl) | exact Or.inr (Or.inr rfl))) me_int) ma_nil)))))) (mss_one (ms_expr (me_append (s := 3) rfl (by first | exact Or.inl rfl | exact Or.inr (Or.inl rfl) | exact Or.inr (Or.inr rfl)) (me_tup (ma_cons (me_var (i := 4) rfl (by first | exact Or.inl rfl | exact Or.inr (Or.inl rfl) | exact Or.inr (Or.inr rfl))) (ma_cons (me_sub (me_var (i := 6) rfl (by first | exact Or.inl rfl | exact Or.inr (Or.inl rfl) | exact Or.inr (Or.inr rfl))) me_int) (ma_cons (me_var (i := 5) rfl (by first | exact Or.inl rfl | exact Or.inr (Or.inl rfl) | exact Or.inr (Or.inr rfl))) (ma_cons (me_sub (me_var (i := 7) rfl (by first | exact Or.inl rfl | exact Or.inr (Or.inl rfl) | exact Or.inr (Or.inr rfl))) me_int) ma_nil)))))))) mss_nil) (mss_one (ms_par2 (i := 4) (j := 5) rfl sc_blocks_of.nd rfl rfl (by decide) rfl rfl (ma_cons (me_fz (me_var (i := 6) rfl (by first | exact Or.inl rfl | exact Or.inr (Or.inl rfl) | exact Or.inr (Or.inr rfl)))) (ma_cons (me_fz (me_var (i := 7) rfl (by first | exact Or.inl rfl | exact Or.inr (Or.inl rfl) | exact Or.inr (Or.inr rfl)))) ma_nil)) rfl)))) (mss_one (ms_ret (me_mov (i := 3) rfl (by first | exact Or.inl rfl | exact Or.inr (Or.inl rfl) | exact Or.inr (Or.inr rfl)))))))))
theorem ck_blocks_of_3 {P : Program} {w : World} {K : PySem.W.Frag} {mg : Str → Option Value} {base : Heap} (W : Wd K mg) : Ck false P w K mg base 7 (He.fAd K ("blocks_of", none)) 3 [] 3 [0, 1, 2] [] f_blocks_of := by
  obtain ⟨fd, Fd⟩ := fd_blocks_of W
  exact (ok_blocks_of W Fd).ck (Bd.plain (ps := ["old", "new", "diff"]) Fd 3 [] [0, 1, 2] fun _ _ _ _ _ _ us ws h1 h2 => match us, h1, ws, h2 with | [_, _, _], _, [], _ => rfl)
theorem ck_blocks_of_0_diff_new_old {P : Program} {w : World} {K : PySem.W.Frag} {mg : Str → Option Value} {base : Heap} (W : Wd K mg) : Ck false P w K mg base 7 (He.fAd K ("blocks_of", none)) 0 ["diff", "new", "old"] 3 [2, 1, 0] [] f_blocks_of := by
  obtain ⟨fd, Fd⟩ := fd_blocks_of W
  exact (ok_blocks_of W Fd).ck (Bd.plain (ps := ["old", "new", "diff"]) Fd 0 ["diff", "new", "old"] [2, 1, 0] fun _ _ _ _ _ _ us ws h1 h2 => match us, h1, ws, h2 with | [], _, [_, _, _], _ => rfl)
theorem sc_kept_lines : FnScope ["old", "new", "diff", "i", "j"] ["old", "new", "diff"] (defScope (top 26)) := ⟨rfl, rfl, rfl, by decide +kernel, rfl, by decide +kernel, by decide +kernel⟩
theorem fd_kept_lines {K : PySem.W.Frag} {mg : Str → Option Value} (W : Wd K mg) : ∃ fd, FunD K "kept_lines" "kept_lines" (defArgs (top 26)) (defBody (top 26)) (defScope (top 26)) [] [] (He.fAd K ("kept_lines", none)) fd := W.c.def_ 20 (d := d_kept_lines) rfl
theorem kp_kept_lines {K : PySem.W.Frag} {mg : Str → Option Value} (W : Wd K mg) : PySem.W.keepIn K (.ref (He.fAd K ("kept_lines", none))) = true := (fd_kept_lines W).choose_spec.kp
theorem ok_kept_lines {P : Program} {w : World} {K : PySem.W.Frag} {mg : Str → Option Value} {base : Heap} {fd : FuncData} (W : Wd K mg) (Fd : FunD K "kept_lines" "kept_lines" (defArgs (top 26)) (defBody (top 26)) (defScope (top 26)) [] [] (He.fAd K ("kept_lines", none)) fd) :
    FnOg false P w K mg base 7 (He.fAd K ("kept_lines", none)) fd ["old", "new", "diff"] (spM K 3 f_kept_lines) := by
  refine fnog (N := ["old", "new", "diff", "i", "j"]) (ps := ["old", "new", "diff"]) (k := 6) (n := 3) (ro := [false, false, false, false, false]) (b := b_kept_lines) Fd sc_kept_lines rfl fun cdv A outer s H E hr hgd => ?_
  have tx := takes_of (X := cxOf (L2.CX P w) P w K mg base ["old", "new", "diff", "i", "j"] "kept_lines" (defScope (top 26)) (He.fAd K ("kept_lines", none)) cdv A outer s H E) (E := E) rfl rfl rfl rfl
  unfold b_kept_lines
  exact (mss_cons (ms_expr (me_call (g := ⟨3, 3, [false, false, false], [0, 1, 2], []⟩) ((ck_check_diff_3 W).mono (k := 6) (by decide)) hr (fun z => nomatch z) tx rfl (W.glo 28 (x := "check_diff")) (kp_check_diff W) (fun G => by simp [FL]) (ma_cons (me_var (i := 0) rfl (by first | exact Or.inl rfl | exact Or.inr (Or.inl rfl) | exact Or.inr (Or.inr rfl))) (ma_cons (me_var (i := 1) rfl (by first | exact Or.inl rfl | exact Or.inr (Or.inl rfl) | exact Or.inr (Or.inr rfl))) (ma_cons (me_var (i := 2) rfl (by first | exact Or.inl rfl | exact Or.inr (Or.inl rfl) | exact Or.inr (Or.inr rfl))) ma_nil))))) (mss_one (ms_ret (me_lc (n := 5) (own := [("i", 3), ("j", 4)]) rfl sc_kept_lines.nd (mi_seq (me_var (i := 2) rfl (by first | exact Or.inl rfl | exact Or.inr (Or.inl rfl) | exact Or.inr (Or.inr rfl)))) (blkOk_by (own := [("i", 3), ("j", 4)]) rfl) (gl_tup (gsl_cons gl_name (gsl_cons gl_name gsl_nil))) (fun _ _ _ _ _ => (mg_tup (n := 2) rfl (mgs_cons (mg_name (i := 3) sc_kept_lines.nd rfl (by first | exact Or.inl rfl | exact Or.inr rfl)) (mgs_cons (mg_name (i := 4) sc_kept_lines.nd rfl (by first | exact Or.inl rfl | exact Or.inr rfl)) mgs_nil)))) (fun _ _ _ _ _ => (me_var (i := 3) rfl (by first | exact Or.inl rfl | exact Or.inr (Or.inl rfl) | exact Or.inr (Or.inr rfl))))))))
theorem ck_kept_lines_3 {P : Program} {w : World} {K : PySem.W.Frag} {mg : Str → Option Value} {base : Heap} (W : Wd K mg) : Ck false P w K mg base 7 (He.fAd K ("kept_lines", none)) 3 [] 3 [0, 1, 2] [] f_kept_lines := by
  obtain ⟨fd, Fd⟩ := fd_kept_lines W
  exact (ok_kept_lines W Fd).ck (Bd.plain (ps := ["old", "new", "diff"]) Fd 3 [] [0, 1, 2] fun _ _ _ _ _ _ us ws h1 h2 => match us, h1, ws, h2 with | [_, _, _], _, [], _ => rfl)
theorem ck_kept_lines_0_diff_new_old {P : Program} {w : World} {K : PySem.W.Frag} {mg : Str → Option Value} {base : Heap} (W : Wd K mg) : Ck false P w K mg base 7 (He.fAd K ("kept_lines", none)) 0 ["diff", "new", "old"] 3 [2, 1, 0] [] f_kept_lines := by
  obtain ⟨fd, Fd⟩ := fd_kept_lines W
  exact (ok_kept_lines W Fd).ck (Bd.plain (ps := ["old", "new", "diff"]) Fd 0 ["diff", "new", "old"] [2, 1, 0] fun _ _ _ _ _ _ us ws h1 h2 => match us, h1, ws, h2 with | [], _, [_, _, _], _ => rfl)
theorem sc_gone_lines : FnScope ["old", "new", "diff", "kept", "i"] ["old", "new", "diff"] (defScope (top 27)) := ⟨rfl, rfl, rfl, by decide +kernel, rfl, by decide +kernel, by decide +kernel⟩
theorem fd_gone_lines {K : PySem.W.Frag} {mg : Str → Option Value} (W : Wd K mg) : ∃ fd, FunD K "gone_lines" "gone_lines" (defArgs (top 27)) (defBody (top 27)) (defScope (top 27)) [] [] (He.fAd K ("gone_lines", none)) fd := W.c.def_ 21 (d := d_gone_lines) rfl
theorem kp_gone_lines {K : PySem.W.Frag} {mg : Str → Option Value} (W : Wd K mg) : PySem.W.keepIn K (.ref (He.fAd K ("gone_lines", none))) = true := (fd_gone_lines W).choose_spec.kp
theorem ok_gone_lines {P : Program} {w : World} {K : PySem.W.Frag} {mg : Str → Option Value} {base : Heap} {fd : FuncData} (W : Wd K mg) (Fd : FunD K "gone_lines" "gone_lines" (defArgs (top 27)) (defBody (top 27)) (defScope (top 27)) [] [] (He.fAd K ("gone_lines", none)) fd) :
    FnOg false P w K mg base 8 (He.fAd K ("gone_lines", none)) fd ["old", "new", "diff"] (spM K 3 f_gone_lines) := by
  refine fnog (N := ["old", "new", "diff", "kept", "i"]) (ps := ["old", "new", "diff"]) (k := 7) (n := 3) (ro := [false, false, false, false, false]) (b := b_gone_lines) Fd sc_gone_lines rfl fun cdv A outer s H E hr hgd => ?_
  have tx := takes_of (X := cxOf (L2.CX P w) P w K mg base ["old", "new", "diff", "kept", "i"] "gone_lines" (defScope (top 27)) (He.fAd K ("gone_lines", none)) cdv A outer s H E) (E := E) rfl rfl rfl rfl
  unfold b_gone_lines
  exact (mss_cons (ms_set (i := 3) sc_gone_lines.nd rfl (by first | exact Or.inl rfl | exact Or.inr rfl) (me_fz (me_call (g := ⟨3, 3, [false, false, false], [0, 1, 2], []⟩) ((ck_kept_lines_3 W).mono (k := 7) (by decide)) hr (fun z => nomatch z) tx rfl (W.glo 29 (x := "kept_lines")) (kp_kept_lines W) (fun G => by simp [FL]) (ma_cons (me_var (i := 0) rfl (by first | exact Or.inl rfl | exact Or.inr (Or.inl rfl) | exact Or.inr (Or.inr rfl))) (ma_cons (me_var (i := 1) rfl (by first | exact Or.inl rfl | exact Or.inr (Or.inl rfl) | exact Or.inr (Or.inr rfl))) (ma_cons (me_var (i := 2) rfl (by first | exact Or.inl rfl | exact Or.inr (Or.inl rfl) | exact Or.inr (Or.inr rfl))) ma_nil)))))) (mss_one (ms_ret (me_lcIf (n := 5) (own := [("i", 4)]) rfl sc_gone_lines.nd (mi_range2 rfl (W.free 8 (x := "range")) (ma_cons me_int (ma_cons (me_add (me_b1 b_len rfl (W.free 1 (x := "len")) boot_len (me_var (i := 0) rfl (by first | exact Or.inl rfl | exact Or.inr (Or.inl rfl) | exact Or.inr (Or.inr rfl)))) me_int) ma_nil))) (blkOk_by (own := [("i", 4)]) rfl) gl_name (fun _ _ _ _ _ => (mg_name (i := 4) sc_gone_lines.nd rfl (by first | exact Or.inl rfl | exact Or.inr rfl))) (fun _ _ _ _ _ => (mtB (pt_cmp (mc_nin (me_var (i := 4) rfl (by first | exact Or.inl rfl | exact Or.inr (Or.inl rfl) | exact Or.inr (Or.inr rfl))) (me_var (i := 3) rfl (by first | exact Or.inl rfl | exact Or.inr (Or.inl rfl) | exact Or.inr (Or.inr rfl))))))) (fun _ _ _ _ _ => (me_var (i := 4) rfl (by first | exact Or.inl rfl | exact Or.inr (Or.inl rfl) | exact Or.inr (Or.inr rfl))))))))
theorem ck_gone_lines_3 {P : Program} {w : World} {K : PySem.W.Frag} {mg : Str → Option Value} {base : Heap} (W : Wd K mg) : Ck false P w K mg base 8 (He.fAd K ("gone_lines", none)) 3 [] 3 [0, 1, 2] [] f_gone_lines := by
  obtain ⟨fd, Fd⟩ := fd_gone_lines W
  exact (ok_gone_lines W Fd).ck (Bd.plain (ps := ["old", "new", "diff"]) Fd 3 [] [0, 1, 2] fun _ _ _ _ _ _ us ws h1 h2 => match us, h1, ws, h2 with | [_, _, _], _, [], _ => rfl)
theorem ck_gone_lines_0_diff_new_old {P : Program} {w : World} {K : PySem.W.Frag} {mg : Str → Option Value} {base : Heap} (W : Wd K mg) : Ck false P w K mg base 8 (He.fAd K ("gone_lines", none)) 0 ["diff", "new", "old"] 3 [2, 1, 0] [] f_gone_lines := by
  obtain ⟨fd, Fd⟩ := fd_gone_lines W
  exact (ok_gone_lines W Fd).ck (Bd.plain (ps := ["old", "new", "diff"]) Fd 0 ["diff", "new", "old"] [2, 1, 0] fun _ _ _ _ _ _ us ws h1 h2 => match us, h1, ws, h2 with | [], _, [_, _, _], _ => rfl)
theorem sc_come_lines : FnScope ["old", "new", "diff", "stayed", "i", "j"] ["old", "new", "diff"] (defScope (top 28)) := ⟨rfl, rfl, rfl, by decide +kernel, rfl, by decide +kernel, by decide +kernel⟩
theorem fd_come_lines {K : PySem.W.Frag} {mg : Str → Option Value} (W : Wd K mg) : ∃ fd, FunD K "come_lines" "come_lines" (defArgs (top 28)) (defBody (top 28)) (defScope (top 28)) [] [] (He.fAd K ("come_lines", none)) fd := W.c.def_ 22 (d := d_come_lines) rfl
theorem kp_come_lines {K : PySem.W.Frag} {mg : Str → Option Value} (W : Wd K mg) : PySem.W.keepIn K (.ref (He.fAd K ("come_lines", none))) = true := (fd_come_lines W).choose_spec.kp
theorem ok_come_lines {P : Program} {w : World} {K : PySem.W.Frag} {mg : Str → Option Value} {base : Heap} {fd : FuncData} (W : Wd K mg) (Fd : FunD K "come_lines" "come_lines" (defArgs (top 28)) (defBody (top 28)) (defScope (top 28)) [] [] (He.fAd K ("come_lines", none)) fd) :
    FnOg false P w K mg base 7 (He.fAd K ("come_lines", none)) fd ["old", "new", "diff"] (spM K 3 f_come_lines) := by
  refine fnog (N := ["old", "new", "diff", "stayed", "i", "j"]) (ps := ["old", "new", "diff"]) (k := 6) (n := 3) (ro := [false, false, false, false, false, false]) (b := b_come_lines) Fd sc_come_lines rfl fun cdv A outer s H E hr hgd => ?_
  have tx := takes_of (X := cxOf (L2.CX P w) P w K mg base ["old", "new", "diff", "stayed", "i", "j"] "come_lines" (defScope (top 28)) (He.fAd K ("come_lines", none)) cdv A outer s H E) (E := E) rfl rfl rfl rfl
  unfold b_come_lines
  exact (mss_cons (ms_expr (me_call (g := ⟨3, 3, [false, false, false], [0, 1, 2], []⟩) ((ck_check_diff_3 W).mono (k := 6) (by decide)) hr (fun z => nomatch z) tx rfl (W.glo 28 (x := "check_diff")) (kp_check_diff W) (fun G => by simp [FL]) (ma_cons (me_var (i := 0) rfl (by first | exact Or.inl rfl | exact Or.inr (Or.inl rfl) | exact Or.inr (Or.inr rfl))) (ma_cons (me_var (i := 1) rfl (by first | exact Or.inl rfl | exact Or.inr (Or.inl rfl) | exact Or.inr (Or.inr rfl))) (ma_cons (me_var (i := 2) rfl (by first | exact Or.inl rfl | exact Or.inr (Or.inl rfl) | exact Or.inr (Or.inr rfl))) ma_nil))))) (mss_cons (ms_set (i := 3) sc_come_lines.nd rfl (by first | exact Or.inl rfl | exact Or.inr rfl) (me_fz (me_lc (n := 6) (own := [("i", 4), ("j", 5)]) rfl sc_come_lines.nd (mi_seq (me_var (i := 2) rfl (by first | exact Or.inl rfl | exact Or.inr (Or.inl rfl) | exact Or.inr (Or.inr rfl)))) (blkOk_by (own := [("i", 4), ("j", 5)]) rfl) (gl_tup (gsl_cons gl_name (gsl_cons gl_name gsl_nil))) (fun _ _ _ _ _ => (mg_tup (n := 2) rfl (mgs_cons (mg_name (i := 4) sc_come_lines.nd rfl (by first | exact Or.inl rfl | exact Or.inr rfl)) (mgs_cons (mg_name (i := 5) sc_come_lines.nd rfl (by first | exact Or.inl rfl | exact Or.inr rfl)) mgs_nil)))) (fun _ _ _ _ _ => (me_var (i := 5) rfl (by first | exact Or.inl rfl | exact Or.inr (Or.inl rfl) | exact Or.inr (Or.inr rfl))))))) (mss_one (ms_ret (me_lcIf (n := 6) (own := [("j", 5)]) rfl sc_come_lines.nd (mi_range2 rfl (W.free 8 (x := "range")) (ma_cons me_int (ma_cons (me_add (me_b1 b_len rfl (W.free 1 (x := "len")) boot_len (me_var (i := 1) rfl (by first | exact Or.inl rfl | exact Or.inr (Or.inl rfl) | exact Or.inr (Or.inr rfl)))) me_int) ma_nil))) (blkOk_by (own := [("j", 5)]) rfl) gl_name (fun _ _ _ _ _ => (mg_name (i := 5) sc_come_lines.nd rfl (by first | exact Or.inl rfl | exact Or.inr rfl))) (fun _ _ _ _ _ => (mtB (pt_cmp (mc_nin (me_var (i := 5) rfl (by first | exact Or.inl rfl | exact Or.inr (Or.inl rfl) | exact Or.inr (Or.inr rfl))) (me_var (i := 3) rfl (by first | exact Or.inl rfl | exact Or.inr (Or.inl rfl) | exact Or.inr (Or.inr rfl))))))) (fun _ _ _ _ _ => (me_var (i := 5) rfl (by first | exact Or.inl rfl | exact Or.inr (Or.inl rfl) | exact Or.inr (Or.inr rfl)))))))))
theorem ck_come_lines_3 {P : Program} {w : World} {K : PySem.W.Frag} {mg : Str → Option Value} {base : Heap} (W : Wd K mg) : Ck false P w K mg base 7 (He.fAd K ("come_lines", none)) 3 [] 3 [0, 1, 2] [] f_come_lines := by
  obtain ⟨fd, Fd⟩ := fd_come_lines W
  exact (ok_come_lines W Fd).ck (Bd.plain (ps := ["old", "new", "diff"]) Fd 3 [] [0, 1, 2] fun _ _ _ _ _ _ us ws h1 h2 => match us, h1, ws, h2 with | [_, _, _], _, [], _ => rfl)
theorem ck_come_lines_0_diff_new_old {P : Program} {w : World} {K : PySem.W.Frag} {mg : Str → Option Value} {base : Heap} (W : Wd K mg) : Ck false P w K mg base 7 (He.fAd K ("come_lines", none)) 0 ["diff", "new", "old"] 3 [2, 1, 0] [] f_come_lines := by
  obtain ⟨fd, Fd⟩ := fd_come_lines W
  exact (ok_come_lines W Fd).ck (Bd.plain (ps := ["old", "new", "diff"]) Fd 0 ["diff", "new", "old"] [2, 1, 0] fun _ _ _ _ _ _ us ws h1 h2 => match us, h1, ws, h2 with | [], _, [_, _, _], _ => rfl)
theorem sc_is_cost : FnScope ["value"] ["value"] (defScope (top 14)) := ⟨rfl, rfl, rfl, by decide +kernel, rfl, by decide +kernel, by decide +kernel⟩
theorem fd_is_cost {K : PySem.W.Frag} {mg : Str → Option Value} (W : Wd K mg) : ∃ fd, FunD K "is_cost" "is_cost" (defArgs (top 14)) (defBody (top 14)) (defScope (top 14)) [] [] (He.fAd K ("is_cost", none)) fd := W.c.def_ 23 (d := d_is_cost) rfl
theorem kp_is_cost {K : PySem.W.Frag} {mg : Str → Option Value} (W : Wd K mg) : PySem.W.keepIn K (.ref (He.fAd K ("is_cost", none))) = true := (fd_is_cost W).choose_spec.kp
theorem ok_is_cost {P : Program} {w : World} {K : PySem.W.Frag} {mg : Str → Option Value} {base : Heap} {fd : FuncData} (W : Wd K mg) (Fd : FunD K "is_cost" "is_cost" (defArgs (top 14)) (defBody (top 14)) (defScope (top 14)) [] [] (He.fAd K ("is_cost", none)) fd) :
    FnOg false P w K mg base 1 (He.fAd K ("is_cost", none)) fd ["value"] (spM K 1 f_is_cost) := by
  refine fnog (N := ["value"]) (ps := ["value"]) (k := 0) (n := 1) (ro := [false]) (b := b_is_cost) Fd sc_is_cost rfl fun cdv A outer s H E hr hgd => ?_
  have tx := takes_of (X := cxOf (L2.CX P w) P w K mg base ["value"] "is_cost" (defScope (top 14)) (He.fAd K ("is_cost", none)) cdv A outer s H E) (E := E) rfl rfl rfl rfl
  unfold b_is_cost
  exact (mss_one (ms_ret (me_and (me_isT (T := "int") rfl (W.free 14 (x := "isinstance")) rfl (W.free 4 (x := "int")) boot_int (me_var (i := 0) rfl (by first | exact Or.inl rfl | exact Or.inr (Or.inl rfl) | exact Or.inr (Or.inr rfl)))) (me_and (me_not (me_isT (T := "bool") rfl (W.free 14 (x := "isinstance")) rfl (W.free 21 (x := "bool")) boot_bool (me_var (i := 0) rfl (by first | exact Or.inl rfl | exact Or.inr (Or.inl rfl) | exact Or.inr (Or.inr rfl))))) (me_one (me_chain op_le op_le me_int (me_var (i := 0) rfl (by first | exact Or.inl rfl | exact Or.inr (Or.inl rfl) | exact Or.inr (Or.inr rfl))) (me_cls rfl (W.glo 31 (x := "Costs")) (clsInt_ok (W.f 30)).1 (clsInt_ok (W.f 30)).2.choose_spec)))))))
theorem ck_is_cost_1 {P : Program} {w : World} {K : PySem.W.Frag} {mg : Str → Option Value} {base : Heap} (W : Wd K mg) : Ck false P w K mg base 1 (He.fAd K ("is_cost", none)) 1 [] 1 [0] [] f_is_cost := by
  obtain ⟨fd, Fd⟩ := fd_is_cost W
  exact (ok_is_cost W Fd).ck (Bd.plain (ps := ["value"]) Fd 1 [] [0] fun _ _ _ _ _ _ us ws h1 h2 => match us, h1, ws, h2 with | [_], _, [], _ => rfl)
theorem sc_are_own : FnScope ["value", "cost"] ["value"] (defScope (top 15)) := ⟨rfl, rfl, rfl, by decide +kernel, rfl, by decide +kernel, by decide +kernel⟩
theorem fd_are_own {K : PySem.W.Frag} {mg : Str → Option Value} (W : Wd K mg) : ∃ fd, FunD K "are_own" "are_own" (defArgs (top 15)) (defBody (top 15)) (defScope (top 15)) [] [] (He.fAd K ("are_own", none)) fd := W.c.def_ 24 (d := d_are_own) rfl
theorem kp_are_own {K : PySem.W.Frag} {mg : Str → Option Value} (W : Wd K mg) : PySem.W.keepIn K (.ref (He.fAd K ("are_own", none))) = true := (fd_are_own W).choose_spec.kp
theorem ok_are_own {P : Program} {w : World} {K : PySem.W.Frag} {mg : Str → Option Value} {base : Heap} {fd : FuncData} (W : Wd K mg) (Fd : FunD K "are_own" "are_own" (defArgs (top 15)) (defBody (top 15)) (defScope (top 15)) [] [] (He.fAd K ("are_own", none)) fd) :
    FnOg false P w K mg base 2 (He.fAd K ("are_own", none)) fd ["value"] (spM K 1 f_are_own) := by
  refine fnog (N := ["value", "cost"]) (ps := ["value"]) (k := 1) (n := 1) (ro := [false, false]) (b := b_are_own) Fd sc_are_own rfl fun cdv A outer s H E hr hgd => ?_
  have tx := takes_of (X := cxOf (L2.CX P w) P w K mg base ["value", "cost"] "are_own" (defScope (top 15)) (He.fAd K ("are_own", none)) cdv A outer s H E) (E := E) rfl rfl rfl rfl
  unfold b_are_own
  exact (mss_one (ms_ret (me_and (me_isT (T := "tuple") rfl (W.free 14 (x := "isinstance")) rfl (W.free 12 (x := "tuple")) boot_tuple (me_var (i := 0) rfl (by first | exact Or.inl rfl | exact Or.inr (Or.inl rfl) | exact Or.inr (Or.inr rfl)))) (me_and (pe_cmp (mc_eq hr.units (me_b1 b_len rfl (W.free 1 (x := "len")) boot_len (me_var (i := 0) rfl (by first | exact Or.inl rfl | exact Or.inr (Or.inl rfl) | exact Or.inr (Or.inr rfl)))) me_int)) (me_one (me_b1 (b_all rfl) rfl (W.free 18 (x := "all")) boot_all (me_lc (n := 2) (own := [("cost", 1)]) rfl sc_are_own.nd (mi_seq (me_var (i := 0) rfl (by first | exact Or.inl rfl | exact Or.inr (Or.inl rfl) | exact Or.inr (Or.inr rfl)))) (blkOk_by (own := [("cost", 1)]) rfl) gl_name (fun _ _ _ _ _ => (mg_name (i := 1) sc_are_own.nd rfl (by first | exact Or.inl rfl | exact Or.inr rfl))) (fun _ _ _ _ _ => (me_call (g := ⟨1, 1, [false], [0], []⟩) ((ck_is_cost_1 W).mono (k := 1) (by decide)) hr (fun z => nomatch z) takesF rfl (W.glo 32 (x := "is_cost")) (kp_is_cost W) (fun G => by simp [FL]) (ma_cons (me_var (i := 1) rfl (by first | exact Or.inl rfl | exact Or.inr (Or.inl rfl) | exact Or.inr (Or.inr rfl))) ma_nil))))))))))
theorem ck_are_own_1 {P : Program} {w : World} {K : PySem.W.Frag} {mg : Str → Option Value} {base : Heap} (W : Wd K mg) : Ck false P w K mg base 2 (He.fAd K ("are_own", none)) 1 [] 1 [0] [] f_are_own := by
  obtain ⟨fd, Fd⟩ := fd_are_own W
  exact (ok_are_own W Fd).ck (Bd.plain (ps := ["value"]) Fd 1 [] [0] fun _ _ _ _ _ _ us ws h1 h2 => match us, h1, ws, h2 with | [_], _, [], _ => rfl)
theorem sc_own_costs : FnScope ["some", "line", "own"] ["some"] (defScope (top 17)) := ⟨rfl, rfl, rfl, by decide +kernel, rfl, by decide +kernel, by decide +kernel⟩
theorem fd_own_costs {K : PySem.W.Frag} {mg : Str → Option Value} (W : Wd K mg) : ∃ fd, FunD K "own_costs" "own_costs" (defArgs (top 17)) (defBody (top 17)) (defScope (top 17)) [] [] (He.fAd K ("own_costs", none)) fd := W.c.def_ 25 (d := d_own_costs) rfl
theorem kp_own_costs {K : PySem.W.Frag} {mg : Str → Option Value} (W : Wd K mg) : PySem.W.keepIn K (.ref (He.fAd K ("own_costs", none))) = true := (fd_own_costs W).choose_spec.kp
theorem ok_own_costs {P : Program} {w : World} {K : PySem.W.Frag} {mg : Str → Option Value} {base : Heap} {fd : FuncData} (W : Wd K mg) (Fd : FunD K "own_costs" "own_costs" (defArgs (top 17)) (defBody (top 17)) (defScope (top 17)) [] [] (He.fAd K ("own_costs", none)) fd) :
    FnOg false P w K mg base 3 (He.fAd K ("own_costs", none)) fd ["some"] (spM K 1 f_own_costs) := by
  refine fnog (N := ["some", "line", "own"]) (ps := ["some"]) (k := 2) (n := 1) (ro := [false, false, false]) (b := b_own_costs) Fd sc_own_costs rfl fun cdv A outer s H E hr hgd => ?_
  have tx := takes_of (X := cxOf (L2.CX P w) P w K mg base ["some", "line", "own"] "own_costs" (defScope (top 17)) (He.fAd K ("own_costs", none)) cdv A outer s H E) (E := E) rfl rfl rfl rfl
  unfold b_own_costs
  exact (mss_cons (ms_if (mtB (pt_cmp (mc_isN (me_var (i := 0) rfl (by first | exact Or.inl rfl | exact Or.inr (Or.inl rfl) | exact Or.inr (Or.inr rfl)))))) (mss_one (ms_ret me_dnew)) mss_nil) (mss_cons (ms_if (mt_not (mt_val (me_isT (T := "dict") rfl (W.free 14 (x := "isinstance")) rfl (W.free 33 (x := "dict")) boot_dict (me_var (i := 0) rfl (by first | exact Or.inl rfl | exact Or.inr (Or.inl rfl) | exact Or.inr (Or.inr rfl)))))) mss_bad mss_nil) (mss_cons (ms_for (passes_of rfl) rfl (mi_items (me_var (i := 0) rfl (by first | exact Or.inl rfl | exact Or.inr (Or.inl rfl) | exact Or.inr (Or.inr rfl)))) (mg_tup (n := 2) rfl (mgs_cons (mg_name (i := 1) sc_own_costs.nd rfl (by first | exact Or.inl rfl | exact Or.inr rfl)) (mgs_cons (mg_name (i := 2) sc_own_costs.nd rfl (by first | exact Or.inl rfl | exact Or.inr rfl)) mgs_nil))) (mss_cons (ms_if (mt_not (mt_val (me_call (g := ⟨1, 1, [false], [0], []⟩) ((ck_is_line_1 W).mono (k := 2) (by decide)) hr (fun z => nomatch z) tx rfl (W.glo 17 (x := "is_line")) (kp_is_line W) (fun G => by simp [FL]) (ma_cons (me_var (i := 1) rfl (by first | exact Or.inl rfl | exact Or.inr (Or.inl rfl) | exact Or.inr (Or.inr rfl))) ma_nil)))) mss_bad mss_nil) (mss_one (ms_if (mt_not (mt_val (me_call (g := ⟨1, 1, [false], [0], []⟩) ((ck_are_own_1 W).mono (k := 2) (by decide)) hr (fun z => nomatch z) tx rfl (W.glo 34 (x := "are_own")) (kp_are_own W) (fun G => by simp [FL]) (ma_cons (me_var (i := 2) rfl (by first | exact Or.inl rfl | exact Or.inr (Or.inl rfl) | exact Or.inr (Or.inr rfl))) ma_nil)))) mss_bad mss_nil)))) (mss_one (ms_ret (me_dc (n := 3) (own := [("line", 1)]) rfl sc_own_costs.nd (mi_seq (me_b1 (b_sortedA rfl) rfl (W.free 35 (x := "sorted")) boot_sorted (me_var (i := 0) rfl (by first | exact Or.inl rfl | exact Or.inr (Or.inl rfl) | exact Or.inr (Or.inr rfl))))) (blkOk_by (own := [("line", 1)]) rfl) gl_name (fun _ _ _ _ _ => (mg_name (i := 1) sc_own_costs.nd rfl (by first | exact Or.inl rfl | exact Or.inr rfl))) (fun _ _ _ _ _ => (me_var (i := 1) rfl (by first | exact Or.inl rfl | exact Or.inr (Or.inl rfl) | exact Or.inr (Or.inr rfl)))) (fun _ _ _ _ _ => (me_dix (hu_of hr) (me_var (i := 0) rfl (by first | exact Or.inl rfl | exact Or.inr (Or.inl rfl) | exact Or.inr (Or.inr rfl))) (me_var (i := 1) rfl (by first | exact Or.inl rfl | exact Or.inr (Or.inl rfl) | exact Or.inr (Or.inr rfl)))))))))))
theorem ck_own_costs_1 {P : Program} {w : World} {K : PySem.W.Frag} {mg : Str → Option Value} {base : Heap} (W : Wd K mg) : Ck false P w K mg base 3 (He.fAd K ("own_costs", none)) 1 [] 1 [0] [] f_own_costs := by
  obtain ⟨fd, Fd⟩ := fd_own_costs W
  exact (ok_own_costs W Fd).ck (Bd.plain (ps := ["some"]) Fd 1 [] [0] fun _ _ _ _ _ _ us ws h1 h2 => match us, h1, ws, h2 with | [_], _, [], _ => rfl)
theorem sc_CostsD_initD : FnScope ["self", "going", "coming", "some", "line", "own"] ["self", "going", "coming", "some"] (defScope (inClass (top 18) 1)) := ⟨rfl, rfl, rfl, by decide +kernel, rfl, by decide +kernel, by decide +kernel⟩
theorem fd_CostsD_initD {K : PySem.W.Frag} {mg : Str → Option Value} (W : Wd K mg) : ∃ fd, FunD K "__init__" "Costs.__init__" (defArgs (inClass (top 18) 1)) (defBody (inClass (top 18) 1)) (defScope (inClass (top 18) 1)) [V.int 1, V.int 1, V.non] [] (He.fAd K ("Costs", some "__init__")) fd := W.c.def_ 26 (d := d_CostsD_initD) rfl
theorem kp_CostsD_initD {K : PySem.W.Frag} {mg : Str → Option Value} (W : Wd K mg) : PySem.W.keepIn K (.ref (He.fAd K ("Costs", some "__init__"))) = true := (fd_CostsD_initD W).choose_spec.kp
theorem ok_CostsD_initD {P : Program} {w : World} {K : PySem.W.Frag} {mg : Str → Option Value} {base : Heap} {fd : FuncData} (W : Wd K mg) (Fd : FunD K "__init__" "Costs.__init__" (defArgs (inClass (top 18) 1)) (defBody (inClass (top 18) 1)) (defScope (inClass (top 18) 1)) [V.int 1, V.int 1, V.non] [] (He.fAd K ("Costs", some "__init__")) fd) :
    FnOg false P w K mg base 4 (He.fAd K ("Costs", some "__init__")) fd ["self", "going", "coming", "some"] (spM K 4 f_CostsD_initD) := by
  refine fnog (N := ["self", "going", "coming", "some", "line", "own"]) (ps := ["self", "going", "coming", "some"]) (k := 3) (n := 4) (ro := [true, false, false, false, false, false]) (b := b_CostsD_initD) Fd sc_CostsD_initD rfl fun cdv A outer s H E hr hgd => ?_
  have tx := takes_of (X := cxOf (L2.CX P w) P w K mg base ["self", "going", "coming", "some", "line", "own"] "Costs.__init__" (defScope (inClass (top 18) 1)) (He.fAd K ("Costs", some "__init__")) cdv A outer s H E) (E := E) rfl rfl rfl rfl
  unfold b_CostsD_initD
  exact (mss_cons (ms_if (mt_not (mt_val (me_call (g := ⟨1, 1, [false], [0], []⟩) ((ck_is_cost_1 W).mono (k := 3) (by decide)) hr (fun z => nomatch z) tx rfl (W.glo 32 (x := "is_cost")) (kp_is_cost W) (fun G => by simp [FL]) (ma_cons (me_var (i := 1) rfl (by first | exact Or.inl rfl | exact Or.inr (Or.inl rfl) | exact Or.inr (Or.inr rfl))) ma_nil)))) mss_bad mss_nil) (mss_cons (ms_if (mt_not (mt_val (me_call (g := ⟨1, 1, [false], [0], []⟩) ((ck_is_cost_1 W).mono (k := 3) (by decide)) hr (fun z => nomatch z) tx rfl (W.glo 32 (x := "is_cost")) (kp_is_cost W) (fun G => by simp [FL]) (ma_cons (me_var (i := 2) rfl (by first | exact Or.inl rfl | exact Or.inr (Or.inl rfl) | exact Or.inr (Or.inr rfl))) ma_nil)))) mss_bad mss_nil) (mss_cons (ms_fld (i := 0) (He.cls_ok (W.f 36)) (He.noat_ok (W.f 37)) rfl (by first | exact Or.inl rfl | exact Or.inr (Or.inl rfl)) (me_tup (ma_cons (me_var (i := 1) rfl (by first | exact Or.inl rfl | exact Or.inr (Or.inl rfl) | exact Or.inr (Or.inr rfl))) (ma_cons (me_var (i := 2) rfl (by first | exact Or.inl rfl | exact Or.inr (Or.inl rfl) | exact Or.inr (Or.inr rfl))) ma_nil)))) (mss_one (ms_fld (i := 0) (He.cls_ok (W.f 36)) (He.noat_ok (W.f 39)) rfl (by first | exact Or.inl rfl | exact Or.inr (Or.inl rfl)) (me_dcIf (n := 6) (own := [("line", 4), ("own", 5)]) rfl sc_CostsD_initD.nd (mi_items (me_call (g := ⟨1, 1, [false], [0], []⟩) ((ck_own_costs_1 W).mono (k := 3) (by decide)) hr (fun z => nomatch z) tx rfl (W.glo 38 (x := "own_costs")) (kp_own_costs W) (fun G => by simp [FL]) (ma_cons (me_var (i := 3) rfl (by first | exact Or.inl rfl | exact Or.inr (Or.inl rfl) | exact Or.inr (Or.inr rfl))) ma_nil))) (blkOk_by (own := [("line", 4), ("own", 5)]) rfl) (gl_tup (gsl_cons gl_name (gsl_cons gl_name gsl_nil))) (fun _ _ _ _ _ => (mg_tup (n := 2) rfl (mgs_cons (mg_name (i := 4) sc_CostsD_initD.nd rfl (by first | exact Or.inl rfl | exact Or.inr rfl)) (mgs_cons (mg_name (i := 5) sc_CostsD_initD.nd rfl (by first | exact Or.inl rfl | exact Or.inr rfl)) mgs_nil)))) (fun _ _ _ _ _ => (mtB (pt_cmp (mc_ne hr.units (me_var (i := 5) rfl (by first | exact Or.inl rfl | exact Or.inr (Or.inl rfl) | exact Or.inr (Or.inr rfl))) (me_fld (He.cls_ok (W.f 36)) (He.noat_ok (W.f 37)) (me_var (i := 0) rfl (by first | exact Or.inl rfl | exact Or.inr (Or.inl rfl) | exact Or.inr (Or.inr rfl)))))))) (fun _ _ _ _ _ => (me_var (i := 4) rfl (by first | exact Or.inl rfl | exact Or.inr (Or.inl rfl) | exact Or.inr (Or.inr rfl)))) (fun _ _ _ _ _ => (me_var (i := 5) rfl (by first | exact Or.inl rfl | exact Or.inr (Or.inl rfl) | exact Or.inr (Or.inr rfl))))))))))
theorem ck_CostsD_initD_3 {P : Program} {w : World} {K : PySem.W.Frag} {mg : Str → Option Value} {base : Heap} (W : Wd K mg) : KCk false P w K mg base 4 (He.fAd K ("Costs", some "__init__")) 3 3 [0, 1, 2] [V.int 1, V.int 1, V.non] f_CostsD_initD := by
  obtain ⟨fd, Fd⟩ := fd_CostsD_initD W
  exact (ok_CostsD_initD W Fd).ck (Bd.dflt (ps := ["self", "going", "coming", "some"]) Fd 4 [] [0, 1, 2, 3] (List.cons_ne_nil _ _) fun _ _ _ _ _ _ _ us ws its h1 h2 h3 => match us, h1, ws, h2, its, h3 with | [_, _, _, _], _, [], _, [_, _, _], _ => ⟨_, rfl, rfl⟩)
theorem sc__law_cost : FnScope ["elder", "newer", "pairing", "fees", "going", "coming", "own", "kept", "stayed", "found", "k", "line", "i", "j"] ["elder", "newer", "pairing", "fees"] (defScope (top 41)) := ⟨rfl, rfl, rfl, by decide +kernel, rfl, by decide +kernel, by decide +kernel⟩
theorem fd__law_cost {K : PySem.W.Frag} {mg : Str → Option Value} (W : Wd K mg) : ∃ fd, FunD K "_law_cost" "_law_cost" (defArgs (top 41)) (defBody (top 41)) (defScope (top 41)) [] [] (He.fAd K ("_law_cost", none)) fd := W.c.def_ 27 (d := d__law_cost) rfl
theorem kp__law_cost {K : PySem.W.Frag} {mg : Str → Option Value} (W : Wd K mg) : PySem.W.keepIn K (.ref (He.fAd K ("_law_cost", none))) = true := (fd__law_cost W).choose_spec.kp
theorem ok__law_cost {P : Program} {w : World} {K : PySem.W.Frag} {mg : Str → Option Value} {base : Heap} {fd : FuncData} (W : Wd K mg) (Fd : FunD K "_law_cost" "_law_cost" (defArgs (top 41)) (defBody (top 41)) (defScope (top 41)) [] [] (He.fAd K ("_law_cost", none)) fd) :
    FnOg false P w K mg base 1 (He.fAd K ("_law_cost", none)) fd ["elder", "newer", "pairing", "fees"] (spM K 4 f__law_cost) := by
  refine fnog (N := ["elder", "newer", "pairing", "fees", "going", "coming", "own", "kept", "stayed", "found", "k", "line", "i", "j"]) (ps := ["elder", "newer", "pairing", "fees"]) (k := 0) (n := 4) (ro := [false, false, false, false, false, false, false, false, false, false, false, false, false, false]) (b := b__law_cost) Fd sc__law_cost rfl fun cdv A outer s H E hr hgd => ?_
  have tx := takes_of (X := cxOf (L2.CX P w) P w K mg base ["elder", "newer", "pairing", "fees", "going", "coming", "own", "kept", "stayed", "found", "k", "line", "i", "j"] "_law_cost" (defScope (top 41)) (He.fAd K ("_law_cost", none)) cdv A outer s H E) (E := E) rfl rfl rfl rfl
  unfold b__law_cost F__law_cost_2 L__law_cost_2 F__law_cost_1 L__law_cost_1 C__law_cost_2 E__law_cost_2 C__law_cost_1 E__law_cost_1
  exact (mss_cons (ms_asg (me_var (i := 3) rfl (by first | exact Or.inl rfl | exact Or.inr (Or.inl rfl) | exact Or.inr (Or.inr rfl))) (mg_tup (n := 3) rfl (mgs_cons (mg_name (i := 4) sc__law_cost.nd rfl (by first | exact Or.inl rfl | exact Or.inr rfl)) (mgs_cons (mg_name (i := 5) sc__law_cost.nd rfl (by first | exact Or.inl rfl | exact Or.inr rfl)) (mgs_cons (mg_name (i := 6) sc__law_cost.nd rfl (by first | exact Or.inl rfl | exact Or.inr rfl)) mgs_nil))))) (mss_cons (ms_par2 (i := 7) (j := 8) rfl sc__law_cost.nd rfl rfl (by decide) rfl rfl (ma_cons (me_fz (me_lc (n := 14) (own := [("i", 12), ("j", 13)]) rfl sc__law_cost.nd (mi_seq (me_var (i := 2) rfl (by first | exact Or.inl rfl | exact Or.inr (Or.inl rfl) | exact Or.inr (Or.inr rfl)))) (blkOk_by (own := [("i", 12), ("j", 13)]) rfl) (gl_tup (gsl_cons gl_name (gsl_cons gl_name gsl_nil))) (fun _ _ _ _ _ => (mg_tup (n := 2) rfl (mgs_cons (mg_name (i := 12) sc__law_cost.nd rfl (by first | exact Or.inl rfl | exact Or.inr rfl)) (mgs_cons (mg_name (i := 13) sc__law_cost.nd rfl (by first | exact Or.inl rfl | exact Or.inr rfl)) mgs_nil)))) (fun _ _ _ _ _ => (me_var (i := 12) rfl (by first | exact Or.inl rfl | exact Or.inr (Or.inl rfl) | exact Or.inr (Or.inr rfl)))))) (ma_cons (me_fz (me_lc (n := 14) (own := [("i", 12), ("j", 13)]) rfl sc__law_cost.nd (mi_seq (me_var (i := 2) rfl (by first | exact Or.inl rfl | exact Or.inr (Or.inl rfl) | exact Or.inr (Or.inr rfl)))) (blkOk_by (own := [("i", 12), ("j", 13)]) rfl) (gl_tup (gsl_cons gl_name (gsl_cons gl_name gsl_nil))) (fun _ _ _ _ _ => (mg_tup (n := 2) rfl (mgs_cons (mg_name (i := 12) sc__law_cost.nd rfl (by first | exact Or.inl rfl | exact Or.inr rfl)) (mgs_cons (mg_name (i := 13) sc__law_cost.nd rfl (by first | exact Or.inl rfl | exact Or.inr rfl)) mgs_nil)))) (fun _ _ _ _ _ => (me_var (i := 13) rfl (by first | exact Or.inl rfl | exact Or.inr (Or.inl rfl) | exact Or.inr (Or.inr rfl)))))) ma_nil)) rfl) (mss_cons (ms_set (i := 9) sc__law_cost.nd rfl (by first | exact Or.inl rfl | exact Or.inr rfl) me_int) (mss_cons (ms_for (passes_of rfl) rfl (mi_enum rfl (W.free 11 (x := "enumerate")) (me_var (i := 0) rfl (by first | exact Or.inl rfl | exact Or.inr (Or.inl rfl) | exact Or.inr (Or.inr rfl)))) (mg_tup (n := 2) rfl (mgs_cons (mg_name (i := 10) sc__law_cost.nd rfl (by first | exact Or.inl rfl | exact Or.inr rfl)) (mgs_cons (mg_name (i := 11) sc__law_cost.nd rfl (by first | exact Or.inl rfl | exact Or.inr rfl)) mgs_nil))) (mss_one (ms_if (mtB (pt_cmp (mc_nin (me_add (me_var (i := 10) rfl (by first | exact Or.inl rfl | exact Or.inr (Or.inl rfl) | exact Or.inr (Or.inr rfl))) me_int) (me_var (i := 7) rfl (by first | exact Or.inl rfl | exact Or.inr (Or.inl rfl) | exact Or.inr (Or.inr rfl)))))) (mss_one (ms_set (i := 9) sc__law_cost.nd rfl (by first | exact Or.inl rfl | exact Or.inr rfl) (me_fz (me_add (me_var (i := 9) rfl (by first | exact Or.inl rfl | exact Or.inr (Or.inl rfl) | exact Or.inr (Or.inr rfl))) (me_sx (me_dget2 (hu_of hr) (me_var (i := 6) rfl (by first | exact Or.inl rfl | exact Or.inr (Or.inl rfl) | exact Or.inr (Or.inr rfl))) (me_var (i := 11) rfl (by first | exact Or.inl rfl | exact Or.inr (Or.inl rfl) | exact Or.inr (Or.inr rfl))) (me_tup (ma_cons (me_var (i := 4) rfl (by first | exact Or.inl rfl | exact Or.inr (Or.inl rfl) | exact Or.inr (Or.inr rfl))) (ma_cons (me_var (i := 5) rfl (by first | exact Or.inl rfl | exact Or.inr (Or.inl rfl) | exact Or.inr (Or.inr rfl))) ma_nil)))) me_int))))) mss_nil))) (mss_cons (ms_for (passes_of rfl) rfl (mi_enum rfl (W.free 11 (x := "enumerate")) (me_var (i := 1) rfl (by first | exact Or.inl rfl | exact Or.inr (Or.inl rfl) | exact Or.inr (Or.inr rfl)))) (mg_tup (n := 2) rfl (mgs_cons (mg_name (i := 10) sc__law_cost.nd rfl (by first | exact Or.inl rfl | exact Or.inr rfl)) (mgs_cons (mg_name (i := 11) sc__law_cost.nd rfl (by first | exact Or.inl rfl | exact Or.inr rfl)) mgs_nil))) (mss_one (ms_if (mtB (pt_cmp (mc_nin (me_add (me_var (i := 10) rfl (by first | exact Or.inl rfl | exact Or.inr (Or.inl rfl) | exact Or.inr (Or.inr rfl))) me_int) (me_var (i := 8) rfl (by first | exact Or.inl rfl | exact Or.inr (Or.inl rfl) | exact Or.inr (Or.inr rfl)))))) (mss_one (ms_set (i := 9) sc__law_cost.nd rfl (by first | exact Or.inl rfl | exact Or.inr rfl) (me_fz (me_add (me_var (i := 9) rfl (by first | exact Or.inl rfl | exact Or.inr (Or.inl rfl) | exact Or.inr (Or.inr rfl))) (me_sx (me_dget2 (hu_of hr) (me_var (i := 6) rfl (by first | exact Or.inl rfl | exact Or.inr (Or.inl rfl) | exact Or.inr (Or.inr rfl))) (me_var (i := 11) rfl (by first | exact Or.inl rfl | exact Or.inr (Or.inl rfl) | exact Or.inr (Or.inr rfl))) (me_tup (ma_cons (me_var (i := 4) rfl (by first | exact Or.inl rfl | exact Or.inr (Or.inl rfl) | exact Or.inr (Or.inr rfl))) (ma_cons (me_var (i := 5) rfl (by first | exact Or.inl rfl | exact Or.inr (Or.inl rfl) | exact Or.inr (Or.inr rfl))) ma_nil)))) me_int))))) mss_nil))) (mss_one (ms_ret (me_var (i := 9) rfl (by first | exact Or.inl rfl | exact Or.inr (Or.inl rfl) | exact Or.inr (Or.inr rfl))))))))))
theorem ck__law_cost_4 {P : Program} {w : World} {K : PySem.W.Frag} {mg : Str → Option Value} {base : Heap} (W : Wd K mg) : Ck false P w K mg base 1 (He.fAd K ("_law_cost", none)) 4 [] 4 [0, 1, 2, 3] [] f__law_cost := by
  obtain ⟨fd, Fd⟩ := fd__law_cost W
  exact (ok__law_cost W Fd).ck (Bd.plain (ps := ["elder", "newer", "pairing", "fees"]) Fd 4 [] [0, 1, 2, 3] fun _ _ _ _ _ _ us ws h1 h2 => match us, h1, ws, h2 with | [_, _, _, _], _, [], _ => rfl)
theorem sc_check_costs : FnScope ["value"] ["value"] (defScope (top 16)) := ⟨rfl, rfl, rfl, by decide +kernel, rfl, by decide +kernel, by decide +kernel⟩
theorem fd_check_costs {K : PySem.W.Frag} {mg : Str → Option Value} (W : Wd K mg) : ∃ fd, FunD K "check_costs" "check_costs" (defArgs (top 16)) (defBody (top 16)) (defScope (top 16)) [] [] (He.fAd K ("check_costs", none)) fd := W.c.def_ 28 (d := d_check_costs) rfl
theorem kp_check_costs {K : PySem.W.Frag} {mg : Str → Option Value} (W : Wd K mg) : PySem.W.keepIn K (.ref (He.fAd K ("check_costs", none))) = true := (fd_check_costs W).choose_spec.kp
theorem ok_check_costs {P : Program} {w : World} {K : PySem.W.Frag} {mg : Str → Option Value} {base : Heap} {fd : FuncData} (W : Wd K mg) (Fd : FunD K "check_costs" "check_costs" (defArgs (top 16)) (defBody (top 16)) (defScope (top 16)) [] [] (He.fAd K ("check_costs", none)) fd) :
    FnOg false P w K mg base 1 (He.fAd K ("check_costs", none)) fd ["value"] (spM K 1 f_check_costs) := by
  refine fnog (N := ["value"]) (ps := ["value"]) (k := 0) (n := 1) (ro := [false]) (b := b_check_costs) Fd sc_check_costs rfl fun cdv A outer s H E hr hgd => ?_
  have tx := takes_of (X := cxOf (L2.CX P w) P w K mg base ["value"] "check_costs" (defScope (top 16)) (He.fAd K ("check_costs", none)) cdv A outer s H E) (E := E) rfl rfl rfl rfl
  unfold b_check_costs
  exact (mss_one (ms_if (mt_not (mt_val (me_isC rfl (W.free 14 (x := "isinstance")) (clsIs_ok (W.f 40)) rfl (W.glo 31 (x := "Costs")) (me_var (i := 0) rfl (by first | exact Or.inl rfl | exact Or.inr (Or.inl rfl) | exact Or.inr (Or.inr rfl)))))) mss_bad mss_nil))
theorem ck_check_costs_1 {P : Program} {w : World} {K : PySem.W.Frag} {mg : Str → Option Value} {base : Heap} (W : Wd K mg) : Ck false P w K mg base 1 (He.fAd K ("check_costs", none)) 1 [] 1 [0] [] f_check_costs := by
  obtain ⟨fd, Fd⟩ := fd_check_costs W
  exact (ok_check_costs W Fd).ck (Bd.plain (ps := ["value"]) Fd 1 [] [0] fun _ _ _ _ _ _ us ws h1 h2 => match us, h1, ws, h2 with | [_], _, [], _ => rfl)
theorem sc_Costs_costs_of : FnScope ["self", "line"] ["self", "line"] (defScope (inClass (top 18) 3)) := ⟨rfl, rfl, rfl, by decide +kernel, rfl, by decide +kernel, by decide +kernel⟩
theorem fd_Costs_costs_of {K : PySem.W.Frag} {mg : Str → Option Value} (W : Wd K mg) : ∃ fd, FunD K "costs_of" "Costs.costs_of" (defArgs (inClass (top 18) 3)) (defBody (inClass (top 18) 3)) (defScope (inClass (top 18) 3)) [] [] (He.fAd K ("Costs", some "costs_of")) fd := W.c.def_ 29 (d := d_Costs_costs_of) rfl
theorem kp_Costs_costs_of {K : PySem.W.Frag} {mg : Str → Option Value} (W : Wd K mg) : PySem.W.keepIn K (.ref (He.fAd K ("Costs", some "costs_of"))) = true := (fd_Costs_costs_of W).choose_spec.kp
theorem ok_Costs_costs_of {P : Program} {w : World} {K : PySem.W.Frag} {mg : Str → Option Value} {base : Heap} {fd : FuncData} (W : Wd K mg) (Fd : FunD K "costs_of" "Costs.costs_of" (defArgs (inClass (top 18) 3)) (defBody (inClass (top 18) 3)) (defScope (inClass (top 18) 3)) [] [] (He.fAd K ("Costs", some "costs_of")) fd) :
    FnOg false P w K mg base 2 (He.fAd K ("Costs", some "costs_of")) fd ["self", "line"] (spM K 2 f_Costs_costs_of) := by
  refine fnog (N := ["self", "line"]) (ps := ["self", "line"]) (k := 1) (n := 2) (ro := [false, false]) (b := b_Costs_costs_of) Fd sc_Costs_costs_of rfl fun cdv A outer s H E hr hgd => ?_
  have tx := takes_of (X := cxOf (L2.CX P w) P w K mg base ["self", "line"] "Costs.costs_of" (defScope (inClass (top 18) 3)) (He.fAd K ("Costs", some "costs_of")) cdv A outer s H E) (E := E) rfl rfl rfl rfl
  unfold b_Costs_costs_of
  exact (mss_cons (ms_if (mt_not (mt_val (me_call (g := ⟨1, 1, [false], [0], []⟩) ((ck_is_line_1 W).mono (k := 1) (by decide)) hr (fun z => nomatch z) tx rfl (W.glo 17 (x := "is_line")) (kp_is_line W) (fun G => by simp [FL]) (ma_cons (me_var (i := 1) rfl (by first | exact Or.inl rfl | exact Or.inr (Or.inl rfl) | exact Or.inr (Or.inr rfl))) ma_nil)))) mss_bad mss_nil) (mss_one (ms_ret (me_dget2 (hu_of hr) (me_fld (He.cls_ok (W.f 36)) (He.noat_ok (W.f 39)) (me_var (i := 0) rfl (by first | exact Or.inl rfl | exact Or.inr (Or.inl rfl) | exact Or.inr (Or.inr rfl)))) (me_var (i := 1) rfl (by first | exact Or.inl rfl | exact Or.inr (Or.inl rfl) | exact Or.inr (Or.inr rfl))) (me_fld (He.cls_ok (W.f 36)) (He.noat_ok (W.f 37)) (me_var (i := 0) rfl (by first | exact Or.inl rfl | exact Or.inr (Or.inl rfl) | exact Or.inr (Or.inr rfl))))))))
theorem ck_Costs_costs_of_2 {P : Program} {w : World} {K : PySem.W.Frag} {mg : Str → Option Value} {base : Heap} (W : Wd K mg) : Ck false P w K mg base 2 (He.fAd K ("Costs", some "costs_of")) 2 [] 2 [0, 1] [] f_Costs_costs_of := by
  obtain ⟨fd, Fd⟩ := fd_Costs_costs_of W
  exact (ok_Costs_costs_of W Fd).ck (Bd.plain (ps := ["self", "line"]) Fd 2 [] [0, 1] fun _ _ _ _ _ _ us ws h1 h2 => match us, h1, ws, h2 with | [_, _], _, [], _ => rfl)
theorem sc_Costs_going : FnScope ["self", "line"] ["self", "line"] (defScope (inClass (top 18) 4)) := ⟨rfl, rfl, rfl, by decide +kernel, rfl, by decide +kernel, by decide +kernel⟩
theorem fd_Costs_going {K : PySem.W.Frag} {mg : Str → Option Value} (W : Wd K mg) : ∃ fd, FunD K "going" "Costs.going" (defArgs (inClass (top 18) 4)) (defBody (inClass (top 18) 4)) (defScope (inClass (top 18) 4)) [] [] (He.fAd K ("Costs", some "going")) fd := W.c.def_ 30 (d := d_Costs_going) rfl
theorem kp_Costs_going {K : PySem.W.Frag} {mg : Str → Option Value} (W : Wd K mg) : PySem.W.keepIn K (.ref (He.fAd K ("Costs", some "going"))) = true := (fd_Costs_going W).choose_spec.kp
theorem ok_Costs_going {P : Program} {w : World} {K : PySem.W.Frag} {mg : Str → Option Value} {base : Heap} {fd : FuncData} (W : Wd K mg) (Fd : FunD K "going" "Costs.going" (defArgs (inClass (top 18) 4)) (defBody (inClass (top 18) 4)) (defScope (inClass (top 18) 4)) [] [] (He.fAd K ("Costs", some "going")) fd) :
    FnOg false P w K mg base 3 (He.fAd K ("Costs", some "going")) fd ["self", "line"] (spM K 2 f_Costs_going) := by
  refine fnog (N := ["self", "line"]) (ps := ["self", "line"]) (k := 2) (n := 2) (ro := [false, false]) (b := b_Costs_going) Fd sc_Costs_going rfl fun cdv A outer s H E hr hgd => ?_
  have tx := takes_of (X := cxOf (L2.CX P w) P w K mg base ["self", "line"] "Costs.going" (defScope (inClass (top 18) 4)) (He.fAd K ("Costs", some "going")) cdv A outer s H E) (E := E) rfl rfl rfl rfl
  unfold b_Costs_going
  exact (mss_one (ms_ret (me_sx (me_meth (g := ⟨2, 2, [false, false], [0, 1], []⟩) (pl := _) (me_var (i := 0) rfl (by first | exact Or.inl rfl | exact Or.inr (Or.inl rfl) | exact Or.inr (Or.inr rfl))) (He.cls_ok (W.f 36)) (He.meth_ok (W.f 41)) ((ck_Costs_costs_of_2 W).mono (k := 2) (by decide)) hr (fun z => nomatch z) tx (fun G => by simp [FL]) (ma_cons (me_var (i := 1) rfl (by first | exact Or.inl rfl | exact Or.inr (Or.inl rfl) | exact Or.inr (Or.inr rfl))) ma_nil)) me_int)))
theorem ck_Costs_going_2 {P : Program} {w : World} {K : PySem.W.Frag} {mg : Str → Option Value} {base : Heap} (W : Wd K mg) : Ck false P w K mg base 3 (He.fAd K ("Costs", some "going")) 2 [] 2 [0, 1] [] f_Costs_going := by
  obtain ⟨fd, Fd⟩ := fd_Costs_going W
  exact (ok_Costs_going W Fd).ck (Bd.plain (ps := ["self", "line"]) Fd 2 [] [0, 1] fun _ _ _ _ _ _ us ws h1 h2 => match us, h1, ws, h2 with | [_, _], _, [], _ => rfl)
theorem sc_Costs_coming : FnScope ["self", "line"] ["self", "line"] (defScope (inClass (top 18) 5)) := ⟨rfl, rfl, rfl, by decide +kernel, rfl, by decide +kernel, by decide +kernel⟩
theorem fd_Costs_coming {K : PySem.W.Frag} {mg : Str → Option Value} (W : Wd K mg) : ∃ fd, FunD K "coming" "Costs.coming" (defArgs (inClass (top 18) 5)) (defBody (inClass (top 18) 5)) (defScope (inClass (top 18) 5)) [] [] (He.fAd K ("Costs", some "coming")) fd := W.c.def_ 31 (d := d_Costs_coming) rfl
theorem kp_Costs_coming {K : PySem.W.Frag} {mg : Str → Option Value} (W : Wd K mg) : PySem.W.keepIn K (.ref (He.fAd K ("Costs", some "coming"))) = true := (fd_Costs_coming W).choose_spec.kp
theorem ok_Costs_coming {P : Program} {w : World} {K : PySem.W.Frag} {mg : Str → Option Value} {base : Heap} {fd : FuncData} (W : Wd K mg) (Fd : FunD K "coming" "Costs.coming" (defArgs (inClass (top 18) 5)) (defBody (inClass (top 18) 5)) (defScope (inClass (top 18) 5)) [] [] (He.fAd K ("Costs", some "coming")) fd) :
    FnOg false P w K mg base 3 (He.fAd K ("Costs", some "coming")) fd ["self", "line"] (spM K 2 f_Costs_coming) := by
  refine fnog (N := ["self", "line"]) (ps := ["self", "line"]) (k := 2) (n := 2) (ro := [false, false]) (b := b_Costs_coming) Fd sc_Costs_coming rfl fun cdv A outer s H E hr hgd => ?_
  have tx := takes_of (X := cxOf (L2.CX P w) P w K mg base ["self", "line"] "Costs.coming" (defScope (inClass (top 18) 5)) (He.fAd K ("Costs", some "coming")) cdv A outer s H E) (E := E) rfl rfl rfl rfl
  unfold b_Costs_coming
  exact (mss_one (ms_ret (me_sx (me_meth (g := ⟨2, 2, [false, false], [0, 1], []⟩) (pl := _) (me_var (i := 0) rfl (by first | exact Or.inl rfl | exact Or.inr (Or.inl rfl) | exact Or.inr (Or.inr rfl))) (He.cls_ok (W.f 36)) (He.meth_ok (W.f 41)) ((ck_Costs_costs_of_2 W).mono (k := 2) (by decide)) hr (fun z => nomatch z) tx (fun G => by simp [FL]) (ma_cons (me_var (i := 1) rfl (by first | exact Or.inl rfl | exact Or.inr (Or.inl rfl) | exact Or.inr (Or.inr rfl))) ma_nil)) me_int)))
theorem ck_Costs_coming_2 {P : Program} {w : World} {K : PySem.W.Frag} {mg : Str → Option Value} {base : Heap} (W : Wd K mg) : Ck false P w K mg base 3 (He.fAd K ("Costs", some "coming")) 2 [] 2 [0, 1] [] f_Costs_coming := by
  obtain ⟨fd, Fd⟩ := fd_Costs_coming W
  exact (ok_Costs_coming W Fd).ck (Bd.plain (ps := ["self", "line"]) Fd 2 [] [0, 1] fun _ _ _ _ _ _ us ws h1 h2 => match us, h1, ws, h2 with | [_, _], _, [], _ => rfl)
theorem sc_cost_of : FnScope ["old", "new", "diff", "costs", "total", "i", "j"] ["old", "new", "diff", "costs"] (defScope (top 29)) := ⟨rfl, rfl, rfl, by decide +kernel, rfl, by decide +kernel, by decide +kernel⟩
theorem fd_cost_of {K : PySem.W.Frag} {mg : Str → Option Value} (W : Wd K mg) : ∃ fd, FunD K "cost_of" "cost_of" (defArgs (top 29)) (defBody (top 29)) (defScope (top 29)) [] [] (He.fAd K ("cost_of", none)) fd := W.c.def_ 32 (d := d_cost_of) rfl
theorem kp_cost_of {K : PySem.W.Frag} {mg : Str → Option Value} (W : Wd K mg) : PySem.W.keepIn K (.ref (He.fAd K ("cost_of", none))) = true := (fd_cost_of W).choose_spec.kp
theorem ok_cost_of {P : Program} {w : World} {K : PySem.W.Frag} {mg : Str → Option Value} {base : Heap} {fd : FuncData} (W : Wd K mg) (Fd : FunD K "cost_of" "cost_of" (defArgs (top 29)) (defBody (top 29)) (defScope (top 29)) [] [] (He.fAd K ("cost_of", none)) fd) :
    FnOg false P w K mg base 9 (He.fAd K ("cost_of", none)) fd ["old", "new", "diff", "costs"] (spM K 4 f_cost_of) := by
  refine fnog (N := ["old", "new", "diff", "costs", "total", "i", "j"]) (ps := ["old", "new", "diff", "costs"]) (k := 8) (n := 4) (ro := [false, false, false, false, false, false, false]) (b := b_cost_of) Fd sc_cost_of rfl fun cdv A outer s H E hr hgd => ?_
  have tx := takes_of (X := cxOf (L2.CX P w) P w K mg base ["old", "new", "diff", "costs", "total", "i", "j"] "cost_of" (defScope (top 29)) (He.fAd K ("cost_of", none)) cdv A outer s H E) (E := E) rfl rfl rfl rfl
  unfold b_cost_of
  exact (mss_cons (ms_expr (me_call (g := ⟨3, 3, [false, false, false], [0, 1, 2], []⟩) ((ck_check_diff_3 W).mono (k := 8) (by decide)) hr (fun z => nomatch z) tx rfl (W.glo 28 (x := "check_diff")) (kp_check_diff W) (fun G => by simp [FL]) (ma_cons (me_var (i := 0) rfl (by first | exact Or.inl rfl | exact Or.inr (Or.inl rfl) | exact Or.inr (Or.inr rfl))) (ma_cons (me_var (i := 1) rfl (by first | exact Or.inl rfl | exact Or.inr (Or.inl rfl) | exact Or.inr (Or.inr rfl))) (ma_cons (me_var (i := 2) rfl (by first | exact Or.inl rfl | exact Or.inr (Or.inl rfl) | exact Or.inr (Or.inr rfl))) ma_nil))))) (mss_cons (ms_expr (me_call (g := ⟨1, 1, [false], [0], []⟩) ((ck_check_costs_1 W).mono (k := 8) (by decide)) hr (fun z => nomatch z) tx rfl (W.glo 42 (x := "check_costs")) (kp_check_costs W) (fun G => by simp [FL]) (ma_cons (me_var (i := 3) rfl (by first | exact Or.inl rfl | exact Or.inr (Or.inl rfl) | exact Or.inr (Or.inr rfl))) ma_nil))) (mss_cons (ms_set (i := 4) sc_cost_of.nd rfl (by first | exact Or.inl rfl | exact Or.inr rfl) (me_fz (me_b1 (b_sum rfl) rfl (W.free 45 (x := "sum")) boot_sum (me_lc (n := 7) (own := [("i", 5)]) rfl sc_cost_of.nd (mi_seq (me_call (g := ⟨3, 3, [false, false, false], [0, 1, 2], []⟩) ((ck_gone_lines_3 W).mono (k := 8) (by decide)) hr (fun z => nomatch z) tx rfl (W.glo 43 (x := "gone_lines")) (kp_gone_lines W) (fun G => by simp [FL]) (ma_cons (me_var (i := 0) rfl (by first | exact Or.inl rfl | exact Or.inr (Or.inl rfl) | exact Or.inr (Or.inr rfl))) (ma_cons (me_var (i := 1) rfl (by first | exact Or.inl rfl | exact Or.inr (Or.inl rfl) | exact Or.inr (Or.inr rfl))) (ma_cons (me_var (i := 2) rfl (by first | exact Or.inl rfl | exact Or.inr (Or.inl rfl) | exact Or.inr (Or.inr rfl))) ma_nil))))) (blkOk_by (own := [("i", 5)]) rfl) gl_name (fun _ _ _ _ _ => (mg_name (i := 5) sc_cost_of.nd rfl (by first | exact Or.inl rfl | exact Or.inr rfl))) (fun _ _ _ _ _ => (me_meth (g := ⟨2, 2, [false, false], [0, 1], []⟩) (pl := _) (me_var (i := 3) rfl (by first | exact Or.inl rfl | exact Or.inr (Or.inl rfl) | exact Or.inr (Or.inr rfl))) (He.cls_ok (W.f 36)) (He.meth_ok (W.f 44)) ((ck_Costs_going_2 W).mono (k := 8) (by decide)) hr (fun z => nomatch z) takesF (fun G => by simp [FL]) (ma_cons (me_sx (me_var (i := 0) rfl (by first | exact Or.inl rfl | exact Or.inr (Or.inl rfl) | exact Or.inr (Or.inr rfl))) (me_sub (me_var (i := 5) rfl (by first | exact Or.inl rfl | exact Or.inr (Or.inl rfl) | exact Or.inr (Or.inr rfl))) me_int)) ma_nil))))))) (mss_one (ms_ret (me_add (me_var (i := 4) rfl (by first | exact Or.inl rfl | exact Or.inr (Or.inl rfl) | exact Or.inr (Or.inr rfl))) (me_b1 (b_sum rfl) rfl (W.free 45 (x := "sum")) boot_sum (me_lc (n := 7) (own := [("j", 6)]) rfl sc_cost_of.nd (mi_seq (me_call (g := ⟨3, 3, [false, false, false], [0, 1, 2], []⟩) ((ck_come_lines_3 W).mono (k := 8) (by decide)) hr (fun z => nomatch z) tx rfl (W.glo 46 (x := "come_lines")) (kp_come_lines W) (fun G => by simp [FL]) (ma_cons (me_var (i := 0) rfl (by first | exact Or.inl rfl | exact Or.inr (Or.inl rfl) | exact Or.inr (Or.inr rfl))) (ma_cons (me_var (i := 1) rfl (by first | exact Or.inl rfl | exact Or.inr (Or.inl rfl) | exact Or.inr (Or.inr rfl))) (ma_cons (me_var (i := 2) rfl (by first | exact Or.inl rfl | exact Or.inr (Or.inl rfl) | exact Or.inr (Or.inr rfl))) ma_nil))))) (blkOk_by (own := [("j", 6)]) rfl) gl_name (fun _ _ _ _ _ => (mg_name (i := 6) sc_cost_of.nd rfl (by first | exact Or.inl rfl | exact Or.inr rfl))) (fun _ _ _ _ _ => (me_meth (g := ⟨2, 2, [false, false], [0, 1], []⟩) (pl := _) (me_var (i := 3) rfl (by first | exact Or.inl rfl | exact Or.inr (Or.inl rfl) | exact Or.inr (Or.inr rfl))) (He.cls_ok (W.f 36)) (He.meth_ok (W.f 47)) ((ck_Costs_coming_2 W).mono (k := 8) (by decide)) hr (fun z => nomatch z) takesF (fun G => by simp [FL]) (ma_cons (me_sx (me_var (i := 1) rfl (by first | exact Or.inl rfl | exact Or.inr (Or.inl rfl) | exact Or.inr (Or.inr rfl))) (me_sub (me_var (i := 6) rfl (by first | exact Or.inl rfl | exact Or.inr (Or.inl rfl) | exact Or.inr (Or.inr rfl))) me_int)) ma_nil)))))))))))
theorem ck_cost_of_4 {P : Program} {w : World} {K : PySem.W.Frag} {mg : Str → Option Value} {base : Heap} (W : Wd K mg) : Ck false P w K mg base 9 (He.fAd K ("cost_of", none)) 4 [] 4 [0, 1, 2, 3] [] f_cost_of := by
  obtain ⟨fd, Fd⟩ := fd_cost_of W
  exact (ok_cost_of W Fd).ck (Bd.plain (ps := ["old", "new", "diff", "costs"]) Fd 4 [] [0, 1, 2, 3] fun _ _ _ _ _ _ us ws h1 h2 => match us, h1, ws, h2 with | [_, _, _, _], _, [], _ => rfl)
theorem ck_cost_of_0_costs_diff_new_old {P : Program} {w : World} {K : PySem.W.Frag} {mg : Str → Option Value} {base : Heap} (W : Wd K mg) : Ck false P w K mg base 9 (He.fAd K ("cost_of", none)) 0 ["costs", "diff", "new", "old"] 4 [3, 2, 1, 0] [] f_cost_of := by
  obtain ⟨fd, Fd⟩ := fd_cost_of W
  exact (ok_cost_of W Fd).ck (Bd.plain (ps := ["old", "new", "diff", "costs"]) Fd 0 ["costs", "diff", "new", "old"] [3, 2, 1, 0] fun _ _ _ _ _ _ us ws h1 h2 => match us, h1, ws, h2 with | [], _, [_, _, _, _], _ => rfl)
theorem sc_partner_of : FnScope ["old", "new", "diff", "i"] ["old", "new", "diff", "i"] (defScope (top 30)) := ⟨rfl, rfl, rfl, by decide +kernel, rfl, by decide +kernel, by decide +kernel⟩
theorem fd_partner_of {K : PySem.W.Frag} {mg : Str → Option Value} (W : Wd K mg) : ∃ fd, FunD K "partner_of" "partner_of" (defArgs (top 30)) (defBody (top 30)) (defScope (top 30)) [] [] (He.fAd K ("partner_of", none)) fd := W.c.def_ 33 (d := d_partner_of) rfl
theorem kp_partner_of {K : PySem.W.Frag} {mg : Str → Option Value} (W : Wd K mg) : PySem.W.keepIn K (.ref (He.fAd K ("partner_of", none))) = true := (fd_partner_of W).choose_spec.kp
theorem ok_partner_of {P : Program} {w : World} {K : PySem.W.Frag} {mg : Str → Option Value} {base : Heap} {fd : FuncData} (W : Wd K mg) (Fd : FunD K "partner_of" "partner_of" (defArgs (top 30)) (defBody (top 30)) (defScope (top 30)) [] [] (He.fAd K ("partner_of", none)) fd) :
    FnOg false P w K mg base 7 (He.fAd K ("partner_of", none)) fd ["old", "new", "diff", "i"] (spM K 4 f_partner_of) := by
  refine fnog (N := ["old", "new", "diff", "i"]) (ps := ["old", "new", "diff", "i"]) (k := 6) (n := 4) (ro := [false, false, false, false]) (b := b_partner_of) Fd sc_partner_of rfl fun cdv A outer s H E hr hgd => ?_
  have tx := takes_of (X := cxOf (L2.CX P w) P w K mg base ["old", "new", "diff", "i"] "partner_of" (defScope (top 30)) (He.fAd K ("partner_of", none)) cdv A outer s H E) (E := E) rfl rfl rfl rfl
  unfold b_partner_of
  exact (mss_cons (ms_expr (me_call (g := ⟨3, 3, [false, false, false], [0, 1, 2], []⟩) ((ck_check_diff_3 W).mono (k := 6) (by decide)) hr (fun z => nomatch z) tx rfl (W.glo 28 (x := "check_diff")) (kp_check_diff W) (fun G => by simp [FL]) (ma_cons (me_var (i := 0) rfl (by first | exact Or.inl rfl | exact Or.inr (Or.inl rfl) | exact Or.inr (Or.inr rfl))) (ma_cons (me_var (i := 1) rfl (by first | exact Or.inl rfl | exact Or.inr (Or.inl rfl) | exact Or.inr (Or.inr rfl))) (ma_cons (me_var (i := 2) rfl (by first | exact Or.inl rfl | exact Or.inr (Or.inl rfl) | exact Or.inr (Or.inr rfl))) ma_nil))))) (mss_cons (ms_if (mt_not (mt_val (me_call (g := ⟨3, 3, [false, false, false], [0, 1, 2], []⟩) ((ck_is_integer_3 W).mono (k := 6) (by decide)) hr (fun z => nomatch z) tx rfl (W.glo 22 (x := "is_integer")) (kp_is_integer W) (fun G => by simp [FL]) (ma_cons (me_var (i := 3) rfl (by first | exact Or.inl rfl | exact Or.inr (Or.inl rfl) | exact Or.inr (Or.inr rfl))) (ma_cons me_int (ma_cons (me_b1 b_len rfl (W.free 1 (x := "len")) boot_len (me_var (i := 0) rfl (by first | exact Or.inl rfl | exact Or.inr (Or.inl rfl) | exact Or.inr (Or.inr rfl)))) ma_nil)))))) mss_bad mss_nil) (mss_one (ms_ret (me_dget1 (hu_of hr) (me_ty1 (b_dictA rfl) rfl (W.free 33 (x := "dict")) boot_dict (me_var (i := 2) rfl (by first | exact Or.inl rfl | exact Or.inr (Or.inl rfl) | exact Or.inr (Or.inr rfl)))) (me_var (i := 3) rfl (by first | exact Or.inl rfl | exact Or.inr (Or.inl rfl) | exact Or.inr (Or.inr rfl))))))))
theorem ck_partner_of_4 {P : Program} {w : World} {K : PySem.W.Frag} {mg : Str → Option Value} {base : Heap} (W : Wd K mg) : Ck false P w K mg base 7 (He.fAd K ("partner_of", none)) 4 [] 4 [0, 1, 2, 3] [] f_partner_of := by
  obtain ⟨fd, Fd⟩ := fd_partner_of W
  exact (ok_partner_of W Fd).ck (Bd.plain (ps := ["old", "new", "diff", "i"]) Fd 4 [] [0, 1, 2, 3] fun _ _ _ _ _ _ us ws h1 h2 => match us, h1, ws, h2 with | [_, _, _, _], _, [], _ => rfl)
theorem sc__law_right : FnScope ["pot", "elder", "newer", "pairing", "fees", "blocks", "going", "coming", "kept", "due", "shown", "turn", "told", "one", "named", "made", "much", "partners", "i", "j", "k"] ["pot", "elder", "newer", "pairing"] (defScope (top 43)) := ⟨rfl, rfl, rfl, by decide +kernel, rfl, by decide +kernel, by decide +kernel⟩
theorem fd__law_right {K : PySem.W.Frag} {mg : Str → Option Value} (W : Wd K mg) : ∃ fd, FunD K "_law_right" "_law_right" (defArgs (top 43)) (defBody (top 43)) (defScope (top 43)) [] [] (He.fAd K ("_law_right", none)) fd := W.c.def_ 34 (d := d__law_right) rfl
theorem kp__law_right {K : PySem.W.Frag} {mg : Str → Option Value} (W : Wd K mg) : PySem.W.keepIn K (.ref (He.fAd K ("_law_right", none))) = true := (fd__law_right W).choose_spec.kp
theorem ok__law_right {P : Program} {w : World} {K : PySem.W.Frag} {mg : Str → Option Value} {base : Heap} {fd : FuncData} (W : Wd K mg) (Fd : FunD K "_law_right" "_law_right" (defArgs (top 43)) (defBody (top 43)) (defScope (top 43)) [] [] (He.fAd K ("_law_right", none)) fd) :
    FnOg true P w K mg base 10 (He.fAd K ("_law_right", none)) fd ["pot", "elder", "newer", "pairing"] (spM K 4 f__law_right) := by
  refine fnog (N := ["pot", "elder", "newer", "pairing", "fees", "blocks", "going", "coming", "kept", "due", "shown", "turn", "told", "one", "named", "made", "much", "partners", "i", "j", "k"]) (ps := ["pot", "elder", "newer", "pairing"]) (k := 9) (n := 4) (ro := [true, false, false, false, false, false, false, false, false, false, false, false, false, false, false, false, false, false, false, false, false]) (b := b__law_right) Fd sc__law_right rfl fun cdv A outer s H E hr hgd => ?_
  have tx := takes_of (X := cxOf (L2.CX P w) P w K mg base ["pot", "elder", "newer", "pairing", "fees", "blocks", "going", "coming", "kept", "due", "shown", "turn", "told", "one", "named", "made", "much", "partners", "i", "j", "k"] "_law_right" (defScope (top 43)) (He.fAd K ("_law_right", none)) cdv A outer s H E) (E := E) rfl rfl rfl rfl
  unfold b__law_right C__law_right_3 E__law_right_3 C__law_right_2 E__law_right_2 F__law_right_1 L__law_right_1 C__law_right_1 E__law_right_1
  exact (mss_cons (ms_par2 (i := 4) (j := 5) rfl sc__law_right.nd rfl rfl (by decide) rfl rfl (ma_cons (me_fz (me_call (g := ⟨1, 1, [true], [0], []⟩) ((ck__law_costs_1 W).mono (k := 9) (by decide)) hr (fun z => nomatch z) tx rfl (W.glo 49 (x := "_law_costs")) (kp__law_costs W) (fun G => by simp [FL]) (ma_cons (me_var (i := 0) rfl (by first | exact Or.inl rfl | exact Or.inr (Or.inl rfl) | exact Or.inr (Or.inr rfl))) ma_nil))) (ma_cons (me_fz (me_call (g := ⟨3, 3, [false, false, false], [0, 1, 2], []⟩) ((ck__law_blocks_3 W).mono (k := 9) (by decide)) hr (fun z => nomatch z) tx rfl (W.glo 48 (x := "_law_blocks")) (kp__law_blocks W) (fun G => by simp [FL]) (ma_cons (me_var (i := 1) rfl (by first | exact Or.inl rfl | exact Or.inr (Or.inl rfl) | exact Or.inr (Or.inr rfl))) (ma_cons (me_var (i := 2) rfl (by first | exact Or.inl rfl | exact Or.inr (Or.inl rfl) | exact Or.inr (Or.inr rfl))) (ma_cons (me_var (i := 3) rfl (by first | exact Or.inl rfl | exact Or.inr (Or.inl rfl) | exact Or.inr (Or.inr rfl))) ma_nil))))) ma_nil)) rfl) (mss_cons (ms_asg (me_call (g := ⟨1, 1, [false], [0], []⟩) ((ck__law_by_blocks_1 W).mono (k := 9) (by decide)) hr (fun z => nomatch z) tx rfl (W.glo 50 (x := "_law_by_blocks")) (kp__law_by_blocks W) (fun G => by simp [FL]) (ma_cons (me_var (i := 5) rfl (by first | exact Or.inl rfl | exact Or.inr (Or.inl rfl) | exact Or.inr (Or.inr rfl))) ma_nil)) (mg_tup (n := 2) rfl (mgs_cons (mg_name (i := 6) sc__law_right.nd rfl (by first | exact Or.inl rfl | exact Or.inr rfl)) (mgs_cons (mg_name (i := 7) sc__law_right.nd rfl (by first | exact Or.inl rfl | exact Or.inr rfl)) mgs_nil)))) (mss_cons (ms_setLc (n := 21) (i := 8) (own := [("i", 18), ("j", 19)]) rfl sc__law_right.nd rfl rfl rfl (mi_seq (me_var (i := 3) rfl (by first | exact Or.inl rfl | exact Or.inr (Or.inl rfl) | exact Or.inr (Or.inr rfl)))) (blkOk_by (own := [("i", 18), ("j", 19)]) rfl) (gl_tup (gsl_cons gl_name (gsl_cons gl_name gsl_nil))) (fun _ _ _ _ _ => (mg_tup (n := 2) rfl (mgs_cons (mg_name (i := 18) sc__law_right.nd rfl (by first | exact Or.inl rfl | exact Or.inr rfl)) (mgs_cons (mg_name (i := 19) sc__law_right.nd rfl (by first | exact Or.inl rfl | exact Or.inr rfl)) mgs_nil)))) (fun _ _ _ _ _ => (me_var (i := 18) rfl (by first | exact Or.inl rfl | exact Or.inr (Or.inl rfl) | exact Or.inr (Or.inr rfl))))) (mss_frz 8 (mss_cons (ms_par2 (i := 9) (j := 10) rfl sc__law_right.nd rfl rfl (by decide) rfl rfl (ma_cons (me_fz (me_lst (ma_cons (me_var (i := 5) rfl (by first | exact Or.inl rfl | exact Or.inr (Or.inl rfl) | exact Or.inr (Or.inr rfl))) (ma_cons (me_var (i := 6) rfl (by first | exact Or.inl rfl | exact Or.inr (Or.inl rfl) | exact Or.inr (Or.inr rfl))) (ma_cons (me_var (i := 7) rfl (by first | exact Or.inl rfl | exact Or.inr (Or.inl rfl) | exact Or.inr (Or.inr rfl))) (ma_cons (me_var (i := 8) rfl (by first | exact Or.inl rfl | exact Or.inr (Or.inl rfl) | exact Or.inr (Or.inr rfl))) ma_nil)))))) (ma_cons (me_fz (me_b1 (b_repr (hgd rfl) hr.units) rfl (W.free 51 (x := "repr")) boot_repr (me_lst (ma_cons (me_var (i := 1) rfl (by first | exact Or.inl rfl | exact Or.inr (Or.inl rfl) | exact Or.inr (Or.inr rfl))) (ma_cons (me_var (i := 2) rfl (by first | exact Or.inl rfl | exact Or.inr (Or.inl rfl) | exact Or.inr (Or.inr rfl))) (ma_cons (me_var (i := 3) rfl (by first | exact Or.inl rfl | exact Or.inr (Or.inl rfl) | exact Or.inr (Or.inr rfl))) ma_nil)))))) ma_nil)) rfl) (mss_cons (ms_for (passes_of rfl) rfl (mi_range1 rfl (W.free 8 (x := "range")) (ma_cons me_int ma_nil)) (mg_name (i := 11) sc__law_right.nd rfl (by first | exact Or.inl rfl | exact Or.inr rfl)) (mss_cons (ms_set (i := 12) sc__law_right.nd rfl (by first | exact Or.inl rfl | exact Or.inr rfl) (me_own (ma_cons (me_call (g := ⟨3, 3, [false, false, false], [0, 1, 2], []⟩) ((ck_blocks_of_3 W).mono (k := 9) (by decide)) hr (fun z => nomatch z) tx rfl (W.glo 52 (x := "blocks_of")) (kp_blocks_of W) (fun G => by simp [FL]) (ma_cons (me_var (i := 1) rfl (by first | exact Or.inl rfl | exact Or.inr (Or.inl rfl) | exact Or.inr (Or.inr rfl))) (ma_cons (me_var (i := 2) rfl (by first | exact Or.inl rfl | exact Or.inr (Or.inl rfl) | exact Or.inr (Or.inr rfl))) (ma_cons (me_var (i := 3) rfl (by first | exact Or.inl rfl | exact Or.inr (Or.inl rfl) | exact Or.inr (Or.inr rfl))) ma_nil)))) (ma_cons (me_call (g := ⟨3, 3, [false, false, false], [0, 1, 2], []⟩) ((ck_gone_lines_3 W).mono (k := 9) (by decide)) hr (fun z => nomatch z) tx rfl (W.glo 43 (x := "gone_lines")) (kp_gone_lines W) (fun G => by simp [FL]) (ma_cons (me_var (i := 1) rfl (by first | exact Or.inl rfl | exact Or.inr (Or.inl rfl) | exact Or.inr (Or.inr rfl))) (ma_cons (me_var (i := 2) rfl (by first | exact Or.inl rfl | exact Or.inr (Or.inl rfl) | exact Or.inr (Or.inr rfl))) (ma_cons (me_var (i := 3) rfl (by first | exact Or.inl rfl | exact Or.inr (Or.inl rfl) | exact Or.inr (Or.inr rfl))) ma_nil)))) (ma_cons (me_call (g := ⟨3, 3, [false, false, false], [0, 1, 2], []⟩) ((ck_come_lines_3 W).mono (k := 9) (by decide)) hr (fun z => nomatch z) tx rfl (W.glo 46 (x := "come_lines")) (kp_come_lines W) (fun G => by simp [FL]) (ma_cons (me_var (i := 1) rfl (by first | exact Or.inl rfl | exact Or.inr (Or.inl rfl) | exact Or.inr (Or.inr rfl))) (ma_cons (me_var (i := 2) rfl (by first | exact Or.inl rfl | exact Or.inr (Or.inl rfl) | exact Or.inr (Or.inr rfl))) (ma_cons (me_var (i := 3) rfl (by first | exact Or.inl rfl | exact Or.inr (Or.inl rfl) | exact Or.inr (Or.inr rfl))) ma_nil)))) ma_nil))))) (mss_cons (ms_expr (me_apo (s := 12) rfl (by first | exact Or.inl rfl | exact Or.inr (Or.inl rfl) | exact Or.inr (Or.inr rfl)) (me_call (g := ⟨3, 3, [false, false, false], [0, 1, 2], []⟩) ((ck_kept_lines_3 W).mono (k := 9) (by decide)) hr (fun z => nomatch z) tx rfl (W.glo 29 (x := "kept_lines")) (kp_kept_lines W) (fun G => by simp [FL]) (ma_cons (me_var (i := 1) rfl (by first | exact Or.inl rfl | exact Or.inr (Or.inl rfl) | exact Or.inr (Or.inr rfl))) (ma_cons (me_var (i := 2) rfl (by first | exact Or.inl rfl | exact Or.inr (Or.inl rfl) | exact Or.inr (Or.inr rfl))) (ma_cons (me_var (i := 3) rfl (by first | exact Or.inl rfl | exact Or.inr (Or.inl rfl) | exact Or.inr (Or.inr rfl))) ma_nil)))))) (mss_cons (ms_if (mtB (pt_cmp (mc_ne hr.units (me_b1 (b_repr (hgd rfl) hr.units) rfl (W.free 51 (x := "repr")) boot_repr (me_var (i := 12) rfl (by first | exact Or.inl rfl | exact Or.inr (Or.inl rfl) | exact Or.inr (Or.inr rfl)))) (me_b1 (b_repr (hgd rfl) hr.units) rfl (W.free 51 (x := "repr")) boot_repr (me_var (i := 9) rfl (by first | exact Or.inl rfl | exact Or.inr (Or.inl rfl) | exact Or.inr (Or.inr rfl))))))) (mss_one (ms_ret me_bl)) mss_nil) (mss_one (ms_forAp (s := 13) (t := 12) (by decide) (passes_of rfl) rfl sc__law_right.nd rfl rfl (by first | exact Or.inl rfl | exact Or.inr rfl) (by first | exact Or.inl rfl | exact Or.inr (Or.inl rfl) | exact Or.inr (Or.inr rfl)) (by first | exact Or.inl rfl | exact Or.inr (Or.inl rfl) | exact Or.inr (Or.inr rfl)))))))) (mss_cons (ms_set (i := 14) sc__law_right.nd rfl (by first | exact Or.inl rfl | exact Or.inr rfl) (me_lst (ma_cons (me_callK0 (g := ⟨3, 3, [false, false, false], [2, 1, 0], []⟩) ((ck_blocks_of_0_diff_new_old W).mono (k := 9) (by decide)) rfl hr (fun z => nomatch z) tx rfl (W.glo 52 (x := "blocks_of")) (kp_blocks_of W) (fun G => by simp [FL]) (mk_cons (me_var (i := 3) rfl (by first | exact Or.inl rfl | exact Or.inr (Or.inl rfl) | exact Or.inr (Or.inr rfl))) (mk_cons (me_var (i := 2) rfl (by first | exact Or.inl rfl | exact Or.inr (Or.inl rfl) | exact Or.inr (Or.inr rfl))) (mk_cons (me_ty1 b_tuple rfl (W.free 12 (x := "tuple")) boot_tuple (me_var (i := 1) rfl (by first | exact Or.inl rfl | exact Or.inr (Or.inl rfl) | exact Or.inr (Or.inr rfl)))) mk_nil)))) ma_nil))) (mss_cons (ms_expr (me_append (s := 14) rfl (by first | exact Or.inl rfl | exact Or.inr (Or.inl rfl) | exact Or.inr (Or.inr rfl)) (me_callK0 (g := ⟨3, 3, [false, false, false], [2, 1, 0], []⟩) ((ck_gone_lines_0_diff_new_old W).mono (k := 9) (by decide)) rfl hr (fun z => nomatch z) tx rfl (W.glo 43 (x := "gone_lines")) (kp_gone_lines W) (fun G => by simp [FL]) (mk_cons (me_var (i := 3) rfl (by first | exact Or.inl rfl | exact Or.inr (Or.inl rfl) | exact Or.inr (Or.inr rfl))) (mk_cons (me_ty1 b_tuple rfl (W.free 12 (x := "tuple")) boot_tuple (me_var (i := 2) rfl (by first | exact Or.inl rfl | exact Or.inr (Or.inl rfl) | exact Or.inr (Or.inr rfl)))) (mk_cons (me_var (i := 1) rfl (by first | exact Or.inl rfl | exact Or.inr (Or.inl rfl) | exact Or.inr (Or.inr rfl))) mk_nil)))))) (mss_cons (ms_set (i := 14) sc__law_right.nd rfl (by first | exact Or.inl rfl | exact Or.inr rfl) (me_add (me_var (i := 14) rfl (by first | exact Or.inl rfl | exact Or.inr (Or.inl rfl) | exact Or.inr (Or.inr rfl))) (me_lst (ma_cons (me_callK0 (g := ⟨3, 3, [false, false, false], [2, 1, 0], []⟩) ((ck_come_lines_0_diff_new_old W).mono (k := 9) (by decide)) rfl hr (fun z => nomatch z) tx rfl (W.glo 46 (x := "come_lines")) (kp_come_lines W) (fun G => by simp [FL]) (mk_cons (me_var (i := 3) rfl (by first | exact Or.inl rfl | exact Or.inr (Or.inl rfl) | exact Or.inr (Or.inr rfl))) (mk_cons (me_var (i := 2) rfl (by first | exact Or.inl rfl | exact Or.inr (Or.inl rfl) | exact Or.inr (Or.inr rfl))) (mk_cons (me_var (i := 1) rfl (by first | exact Or.inl rfl | exact Or.inr (Or.inl rfl) | exact Or.inr (Or.inr rfl))) mk_nil)))) (ma_cons (me_callK0 (g := ⟨3, 3, [false, false, false], [2, 1, 0], []⟩) ((ck_kept_lines_0_diff_new_old W).mono (k := 9) (by decide)) rfl hr (fun z => nomatch z) tx rfl (W.glo 29 (x := "kept_lines")) (kp_kept_lines W) (fun G => by simp [FL]) (mk_cons (me_var (i := 3) rfl (by first | exact Or.inl rfl | exact Or.inr (Or.inl rfl) | exact Or.inr (Or.inr rfl))) (mk_cons (me_var (i := 2) rfl (by first | exact Or.inl rfl | exact Or.inr (Or.inl rfl) | exact Or.inr (Or.inr rfl))) (mk_cons (me_var (i := 1) rfl (by first | exact Or.inl rfl | exact Or.inr (Or.inl rfl) | exact Or.inr (Or.inr rfl))) mk_nil)))) ma_nil))))) (mss_cons (ms_if (PW.pt (mw_or (mtB (pt_cmp (mc_ne hr.units (me_b1 (b_repr (hgd rfl) hr.units) rfl (W.free 51 (x := "repr")) boot_repr (me_var (i := 14) rfl (by first | exact Or.inl rfl | exact Or.inr (Or.inl rfl) | exact Or.inr (Or.inr rfl)))) (me_b1 (b_repr (hgd rfl) hr.units) rfl (W.free 51 (x := "repr")) boot_repr (me_var (i := 9) rfl (by first | exact Or.inl rfl | exact Or.inr (Or.inl rfl) | exact Or.inr (Or.inr rfl))))))) (mw_or1 (mtB (pt_cmp (mc_ne hr.units (me_b1 (b_repr (hgd rfl) hr.units) rfl (W.free 51 (x := "repr")) boot_repr (me_lst (ma_cons (me_var (i := 1) rfl (by first | exact Or.inl rfl | exact Or.inr (Or.inl rfl) | exact Or.inr (Or.inr rfl))) (ma_cons (me_var (i := 2) rfl (by first | exact Or.inl rfl | exact Or.inr (Or.inl rfl) | exact Or.inr (Or.inr rfl))) (ma_cons (me_var (i := 3) rfl (by first | exact Or.inl rfl | exact Or.inr (Or.inl rfl) | exact Or.inr (Or.inr rfl))) ma_nil))))) (me_var (i := 10) rfl (by first | exact Or.inl rfl | exact Or.inr (Or.inl rfl) | exact Or.inr (Or.inr rfl))))))))) (mss_one (ms_ret me_bl)) mss_nil) (mss_cons (ms_if (PW.pt (mw_or (mtB (pt_cmp (mc_ne hr.units (me_b1 (b_sortedA rfl) rfl (W.free 35 (x := "sorted")) boot_sorted (me_add (me_var (i := 6) rfl (by first | exact Or.inl rfl | exact Or.inr (Or.inl rfl) | exact Or.inr (Or.inr rfl))) (me_var (i := 8) rfl (by first | exact Or.inl rfl | exact Or.inr (Or.inl rfl) | exact Or.inr (Or.inr rfl))))) (me_lrg2 rfl rfl (W.free 13 (x := "list")) rfl (W.free 8 (x := "range")) me_int (me_add (me_b1 b_len rfl (W.free 1 (x := "len")) boot_len (me_var (i := 1) rfl (by first | exact Or.inl rfl | exact Or.inr (Or.inl rfl) | exact Or.inr (Or.inr rfl)))) me_int))))) (mw_or1 (mtB (pt_cmp (mc_ne hr.units (me_add (me_b1 b_len rfl (W.free 1 (x := "len")) boot_len (me_var (i := 7) rfl (by first | exact Or.inl rfl | exact Or.inr (Or.inl rfl) | exact Or.inr (Or.inr rfl)))) (me_b1 b_len rfl (W.free 1 (x := "len")) boot_len (me_var (i := 8) rfl (by first | exact Or.inl rfl | exact Or.inr (Or.inl rfl) | exact Or.inr (Or.inr rfl))))) (me_b1 b_len rfl (W.free 1 (x := "len")) boot_len (me_var (i := 2) rfl (by first | exact Or.inl rfl | exact Or.inr (Or.inl rfl) | exact Or.inr (Or.inr rfl)))))))))) (mss_one (ms_ret me_bl)) mss_nil) (mss_cons (ms_set (i := 15) sc__law_right.nd rfl (by first | exact Or.inl rfl | exact Or.inr rfl) (me_fz (me_make (g := ⟨3, 3, [false, false, false], [0, 1, 2], [.int 1, .int 1, .non]⟩) (He.mkr_ok (W.f 53)) ((ck_CostsD_initD_3 W).mono (k := 8) (by decide)) hr (fun z => nomatch z) tx rfl (W.glo 31 (x := "Costs")) (fun G => by simp [FL, F]) (ma_cons (me_sx (me_var (i := 4) rfl (by first | exact Or.inl rfl | exact Or.inr (Or.inl rfl) | exact Or.inr (Or.inr rfl))) me_int) (ma_cons (me_sx (me_var (i := 4) rfl (by first | exact Or.inl rfl | exact Or.inr (Or.inl rfl) | exact Or.inr (Or.inr rfl))) me_int) (ma_cons (me_sx (me_var (i := 4) rfl (by first | exact Or.inl rfl | exact Or.inr (Or.inl rfl) | exact Or.inr (Or.inr rfl))) me_int) ma_nil)))))) (mss_cons (ms_set (i := 16) sc__law_right.nd rfl (by first | exact Or.inl rfl | exact Or.inr rfl) (me_fz (me_call (g := ⟨4, 4, [false, false, false, false], [0, 1, 2, 3], []⟩) ((ck__law_cost_4 W).mono (k := 9) (by decide)) hr (fun z => nomatch z) tx rfl (W.glo 54 (x := "_law_cost")) (kp__law_cost W) (fun G => by simp [FL]) (ma_cons (me_var (i := 1) rfl (by first | exact Or.inl rfl | exact Or.inr (Or.inl rfl) | exact Or.inr (Or.inr rfl))) (ma_cons (me_var (i := 2) rfl (by first | exact Or.inl rfl | exact Or.inr (Or.inl rfl) | exact Or.inr (Or.inr rfl))) (ma_cons (me_var (i := 3) rfl (by first | exact Or.inl rfl | exact Or.inr (Or.inl rfl) | exact Or.inr (Or.inr rfl))) (ma_cons (me_var (i := 4) rfl (by first | exact Or.inl rfl | exact Or.inr (Or.inl rfl) | exact Or.inr (Or.inr rfl))) ma_nil))))))) (mss_cons (ms_set (i := 12) sc__law_right.nd rfl (by first | exact Or.inl rfl | exact Or.inr rfl) (me_own (ma_cons (me_call (g := ⟨4, 4, [false, false, false, false], [0, 1, 2, 3], []⟩) ((ck_cost_of_4 W).mono (k := 9) (by decide)) hr (fun z => nomatch z) tx rfl (W.glo 55 (x := "cost_of")) (kp_cost_of W) (fun G => by simp [FL]) (ma_cons (me_var (i := 1) rfl (by first | exact Or.inl rfl | exact Or.inr (Or.inl rfl) | exact Or.inr (Or.inr rfl))) (ma_cons (me_var (i := 2) rfl (by first | exact Or.inl rfl | exact Or.inr (Or.inl rfl) | exact Or.inr (Or.inr rfl))) (ma_cons (me_var (i := 3) rfl (by first | exact Or.inl rfl | exact Or.inr (Or.inl rfl) | exact Or.inr (Or.inr rfl))) (ma_cons (me_var (i := 15) rfl (by first | exact Or.inl rfl | exact Or.inr (Or.inl rfl) | exact Or.inr (Or.inr rfl))) ma_nil))))) (ma_cons (me_callK0 (g := ⟨4, 4, [false, false, false, false], [3, 2, 1, 0], []⟩) ((ck_cost_of_0_costs_diff_new_old W).mono (k := 9) (by decide)) rfl hr (fun z => nomatch z) tx rfl (W.glo 55 (x := "cost_of")) (kp_cost_of W) (fun G => by simp [FL]) (mk_cons (me_var (i := 15) rfl (by first | exact Or.inl rfl | exact Or.inr (Or.inl rfl) | exact Or.inr (Or.inr rfl))) (mk_cons (me_var (i := 3) rfl (by first | exact Or.inl rfl | exact Or.inr (Or.inl rfl) | exact Or.inr (Or.inr rfl))) (mk_cons (me_var (i := 2) rfl (by first | exact Or.inl rfl | exact Or.inr (Or.inl rfl) | exact Or.inr (Or.inr rfl))) (mk_cons (me_var (i := 1) rfl (by first | exact Or.inl rfl | exact Or.inr (Or.inl rfl) | exact Or.inr (Or.inr rfl))) mk_nil))))) ma_nil)))) (mss_cons (ms_if (mtB (pt_cmp (mc_ne hr.units (me_b1 (b_repr (hgd rfl) hr.units) rfl (W.free 51 (x := "repr")) boot_repr (me_var (i := 12) rfl (by first | exact Or.inl rfl | exact Or.inr (Or.inl rfl) | exact Or.inr (Or.inr rfl)))) (me_b1 (b_repr (hgd rfl) hr.units) rfl (W.free 51 (x := "repr")) boot_repr (me_lst (ma_cons (me_var (i := 16) rfl (by first | exact Or.inl rfl | exact Or.inr (Or.inl rfl) | exact Or.inr (Or.inr rfl))) (ma_cons (me_var (i := 16) rfl (by first | exact Or.inl rfl | exact Or.inr (Or.inl rfl) | exact Or.inr (Or.inr rfl))) ma_nil))))))) (mss_one (ms_ret me_bl)) mss_nil) (mss_cons (ms_setLc (n := 21) (i := 17) (own := [("k", 20)]) rfl sc__law_right.nd rfl rfl rfl (mi_range1 rfl (W.free 8 (x := "range")) (ma_cons (me_b1 b_len rfl (W.free 1 (x := "len")) boot_len (me_var (i := 1) rfl (by first | exact Or.inl rfl | exact Or.inr (Or.inl rfl) | exact Or.inr (Or.inr rfl)))) ma_nil)) (blkOk_by (own := [("k", 20)]) rfl) gl_name (fun _ _ _ _ _ => (mg_name (i := 20) sc__law_right.nd rfl (by first | exact Or.inl rfl | exact Or.inr rfl))) (fun _ _ _ _ _ => (me_call (g := ⟨4, 4, [false, false, false, false], [0, 1, 2, 3], []⟩) ((ck_partner_of_4 W).mono (k := 9) (by decide)) hr (fun z => nomatch z) takesF rfl (W.glo 56 (x := "partner_of")) (kp_partner_of W) (fun G => by simp [FL]) (ma_cons (me_var (i := 1) rfl (by first | exact Or.inl rfl | exact Or.inr (Or.inl rfl) | exact Or.inr (Or.inr rfl))) (ma_cons (me_var (i := 2) rfl (by first | exact Or.inl rfl | exact Or.inr (Or.inl rfl) | exact Or.inr (Or.inr rfl))) (ma_cons (me_var (i := 3) rfl (by first | exact Or.inl rfl | exact Or.inr (Or.inl rfl) | exact Or.inr (Or.inr rfl))) (ma_cons (me_add (me_var (i := 20) rfl (by first | exact Or.inl rfl | exact Or.inr (Or.inl rfl) | exact Or.inr (Or.inr rfl))) me_int) ma_nil))))))) (mss_frz 17 (mss_one (ms_ret (pe_cmp (mc_eq hr.units (me_b1 (b_repr (hgd rfl) hr.units) rfl (W.free 51 (x := "repr")) boot_repr (me_var (i := 17) rfl (by first | exact Or.inl rfl | exact Or.inr (Or.inl rfl) | exact Or.inr (Or.inr rfl)))) (me_b1 (b_repr (hgd rfl) hr.units) rfl (W.free 51 (x := "repr")) boot_repr (me_lc (n := 21) (own := [("k", 20)]) rfl sc__law_right.nd (mi_range1 rfl (W.free 8 (x := "range")) (ma_cons (me_b1 b_len rfl (W.free 1 (x := "len")) boot_len (me_var (i := 1) rfl (by first | exact Or.inl rfl | exact Or.inr (Or.inl rfl) | exact Or.inr (Or.inr rfl)))) ma_nil)) (blkOk_by (own := [("k", 20)]) rfl) gl_name (fun _ _ _ _ _ => (mg_name (i := 20) sc__law_right.nd rfl (by first | exact Or.inl rfl | exact Or.inr rfl))) (fun _ _ _ _ _ => (me_dget1 (hu_of hr) (me_ty1 (b_dictA rfl) rfl (W.free 33 (x := "dict")) boot_dict (me_var (i := 3) rfl (by first | exact Or.inl rfl | exact Or.inr (Or.inl rfl) | exact Or.inr (Or.inr rfl)))) (me_add (me_var (i := 20) rfl (by first | exact Or.inl rfl | exact Or.inr (Or.inl rfl) | exact Or.inr (Or.inr rfl))) me_int))))))))))))))))))))))))))
theorem ck__law_right_4 {P : Program} {w : World} {K : PySem.W.Frag} {mg : Str → Option Value} {base : Heap} (W : Wd K mg) : Ck true P w K mg base 10 (He.fAd K ("_law_right", none)) 4 [] 4 [0, 1, 2, 3] [] f__law_right := by
  obtain ⟨fd, Fd⟩ := fd__law_right W
  exact (ok__law_right W Fd).ck (Bd.plain (ps := ["pot", "elder", "newer", "pairing"]) Fd 4 [] [0, 1, 2, 3] fun _ _ _ _ _ _ us ws h1 h2 => match us, h1, ws, h2 with | [_, _, _, _], _, [], _ => rfl)
theorem sc_law : FnScope ["script", "k", "pot", "turn", "elder", "newer", "pairing", "same", "number"] ["script"] (defScope (top 44)) := ⟨rfl, rfl, rfl, by decide +kernel, rfl, by decide +kernel, by decide +kernel⟩
theorem fd_law {K : PySem.W.Frag} {mg : Str → Option Value} (W : Wd K mg) : ∃ fd, FunD K "law" "law" (defArgs (top 44)) (defBody (top 44)) (defScope (top 44)) [] [] (He.fAd K ("law", none)) fd := W.c.def_ 35 (d := d_law) rfl
theorem kp_law {K : PySem.W.Frag} {mg : Str → Option Value} (W : Wd K mg) : PySem.W.keepIn K (.ref (He.fAd K ("law", none))) = true := (fd_law W).choose_spec.kp
theorem ok_law {P : Program} {w : World} {K : PySem.W.Frag} {mg : Str → Option Value} {base : Heap} {fd : FuncData} (W : Wd K mg) (Fd : FunD K "law" "law" (defArgs (top 44)) (defBody (top 44)) (defScope (top 44)) [] [] (He.fAd K ("law", none)) fd) :
    FnOg true P w K mg base 11 (He.fAd K ("law", none)) fd ["script"] (spM K 1 f_law) := by
  refine fnog (N := ["script", "k", "pot", "turn", "elder", "newer", "pairing", "same", "number"]) (ps := ["script"]) (k := 10) (n := 1) (ro := [false, false, false, false, false, false, false, false, false]) (b := b_law) Fd sc_law rfl fun cdv A outer s H E hr hgd => ?_
  have tx := takes_of (X := cxOf (L2.CX P w) P w K mg base ["script", "k", "pot", "turn", "elder", "newer", "pairing", "same", "number"] "law" (defScope (top 44)) (He.fAd K ("law", none)) cdv A outer s H E) (E := E) rfl rfl rfl rfl
  unfold b_law F_law_3 L_law_3 F_law_2 L_law_2 C_law_1 E_law_1 F_law_1 L_law_1
  exact (mss_cons (ms_for (passes_of rfl) rfl (mi_range1 rfl (W.free 8 (x := "range")) (ma_cons (me_b2 (b_max2 rfl) rfl (W.free 3 (x := "max")) boot_max me_int (me_b2 (b_min2 rfl) rfl (W.free 57 (x := "min")) boot_min me_int (me_b1 b_len rfl (W.free 1 (x := "len")) boot_len (me_var (i := 0) rfl (by first | exact Or.inl rfl | exact Or.inr (Or.inl rfl) | exact Or.inr (Or.inr rfl)))))) ma_nil)) (mg_name (i := 1) sc_law.nd rfl (by first | exact Or.inl rfl | exact Or.inr rfl)) (mss_cons (ms_set (i := 2) sc_law.nd rfl (by first | exact Or.inl rfl | exact Or.inr rfl) (me_call (g := ⟨2, 2, [false, false], [0, 1], []⟩) ((ck__law_pot_2 W).mono (k := 10) (by decide)) hr (fun z => nomatch z) tx rfl (W.glo 58 (x := "_law_pot")) (kp__law_pot W) (fun G => by simp [FL]) (ma_cons (me_var (i := 0) rfl (by first | exact Or.inl rfl | exact Or.inr (Or.inl rfl) | exact Or.inr (Or.inr rfl))) (ma_cons (me_var (i := 1) rfl (by first | exact Or.inl rfl | exact Or.inr (Or.inl rfl) | exact Or.inr (Or.inr rfl))) ma_nil)))) (mss_one (ms_for (passes_of rfl) rfl (mi_range1 rfl (W.free 8 (x := "range")) (ma_cons me_int ma_nil)) (mg_name (i := 3) sc_law.nd rfl (by first | exact Or.inl rfl | exact Or.inr rfl)) (mss_cons (ms_asg (me_call (g := ⟨2, 2, [true, false], [0, 1], []⟩) ((ck__law_two_2 W).mono (k := 10) (by decide)) hr (fun z => nomatch z) tx rfl (W.glo 59 (x := "_law_two")) (kp__law_two W) (fun G => by simp [FL]) (ma_cons (me_var (i := 2) rfl (by first | exact Or.inl rfl | exact Or.inr (Or.inl rfl) | exact Or.inr (Or.inr rfl))) (ma_cons (me_call (g := ⟨2, 2, [true, false], [0, 1], []⟩) ((ck__law_pick_2 W).mono (k := 10) (by decide)) hr (fun z => nomatch z) tx rfl (W.glo 7 (x := "_law_pick")) (kp__law_pick W) (fun G => by simp [FL]) (ma_cons (me_var (i := 2) rfl (by first | exact Or.inl rfl | exact Or.inr (Or.inl rfl) | exact Or.inr (Or.inr rfl))) (ma_cons (me_lst (ma_cons me_int (ma_cons me_int (ma_cons me_int (ma_cons me_int ma_nil))))) ma_nil))) ma_nil))) (mg_tup (n := 2) rfl (mgs_cons (mg_name (i := 4) sc_law.nd rfl (by first | exact Or.inl rfl | exact Or.inr rfl)) (mgs_cons (mg_name (i := 5) sc_law.nd rfl (by first | exact Or.inl rfl | exact Or.inr rfl)) mgs_nil)))) (mss_cons (ms_for (passes_of rfl) rfl (mi_seq (me_lst (ma_cons (me_call (g := ⟨3, 3, [true, false, false], [0, 1, 2], []⟩) ((ck__law_diff_3 W).mono (k := 10) (by decide)) hr (fun z => nomatch z) tx rfl (W.glo 60 (x := "_law_diff")) (kp__law_diff W) (fun G => by simp [FL]) (ma_cons (me_var (i := 2) rfl (by first | exact Or.inl rfl | exact Or.inr (Or.inl rfl) | exact Or.inr (Or.inr rfl))) (ma_cons (me_var (i := 4) rfl (by first | exact Or.inl rfl | exact Or.inr (Or.inl rfl) | exact Or.inr (Or.inr rfl))) (ma_cons (me_var (i := 5) rfl (by first | exact Or.inl rfl | exact Or.inr (Or.inl rfl) | exact Or.inr (Or.inr rfl))) ma_nil)))) (ma_cons (me_call (g := ⟨3, 3, [true, false, false], [0, 1, 2], []⟩) ((ck__law_diff_3 W).mono (k := 10) (by decide)) hr (fun z => nomatch z) tx rfl (W.glo 60 (x := "_law_diff")) (kp__law_diff W) (fun G => by simp [FL]) (ma_cons (me_var (i := 2) rfl (by first | exact Or.inl rfl | exact Or.inr (Or.inl rfl) | exact Or.inr (Or.inr rfl))) (ma_cons (me_var (i := 4) rfl (by first | exact Or.inl rfl | exact Or.inr (Or.inl rfl) | exact Or.inr (Or.inr rfl))) (ma_cons (me_var (i := 5) rfl (by first | exact Or.inl rfl | exact Or.inr (Or.inl rfl) | exact Or.inr (Or.inr rfl))) ma_nil)))) (ma_cons me_unit ma_nil))))) (mg_name (i := 6) sc_law.nd rfl (by first | exact Or.inl rfl | exact Or.inr rfl)) (mss_one (ms_if (mt_not (mt_val (me_call (g := ⟨4, 4, [true, false, false, false], [0, 1, 2, 3], []⟩) ((ck__law_right_4 W).mono (k := 10) (by decide)) hr hgd tx rfl (W.glo 61 (x := "_law_right")) (kp__law_right W) (fun G => by simp [FL]) (ma_cons (me_var (i := 2) rfl (by first | exact Or.inl rfl | exact Or.inr (Or.inl rfl) | exact Or.inr (Or.inr rfl))) (ma_cons (me_var (i := 4) rfl (by first | exact Or.inl rfl | exact Or.inr (Or.inl rfl) | exact Or.inr (Or.inr rfl))) (ma_cons (me_var (i := 5) rfl (by first | exact Or.inl rfl | exact Or.inr (Or.inl rfl) | exact Or.inr (Or.inr rfl))) (ma_cons (me_var (i := 6) rfl (by first | exact Or.inl rfl | exact Or.inr (Or.inl rfl) | exact Or.inr (Or.inr rfl))) ma_nil))))))) (mss_one (ms_ret me_bl)) mss_nil))) (mss_cons (ms_set (i := 7) sc_law.nd rfl (by first | exact Or.inl rfl | exact Or.inr rfl) (me_fz (me_ty1 b_tuple rfl (W.free 12 (x := "tuple")) boot_tuple (me_lc (n := 9) (own := [("number", 8)]) rfl sc_law.nd (mi_range1 rfl (W.free 8 (x := "range")) (ma_cons (me_b1 b_len rfl (W.free 1 (x := "len")) boot_len (me_var (i := 4) rfl (by first | exact Or.inl rfl | exact Or.inr (Or.inl rfl) | exact Or.inr (Or.inr rfl)))) ma_nil)) (blkOk_by (own := [("number", 8)]) rfl) gl_name (fun _ _ _ _ _ => (mg_name (i := 8) sc_law.nd rfl (by first | exact Or.inl rfl | exact Or.inr rfl))) (fun _ _ _ _ _ => (me_tup (ma_cons (me_add (me_var (i := 8) rfl (by first | exact Or.inl rfl | exact Or.inr (Or.inl rfl) | exact Or.inr (Or.inr rfl))) me_int) (ma_cons (me_add (me_var (i := 8) rfl (by first | exact Or.inl rfl | exact Or.inr (Or.inl rfl) | exact Or.inr (Or.inr rfl))) me_int) ma_nil)))))))) (mss_one (ms_if (PW.pt (mw_or (mt_not (mt_val (me_call (g := ⟨4, 4, [true, false, false, false], [0, 1, 2, 3], []⟩) ((ck__law_right_4 W).mono (k := 10) (by decide)) hr hgd tx rfl (W.glo 61 (x := "_law_right")) (kp__law_right W) (fun G => by simp [FL]) (ma_cons (me_var (i := 2) rfl (by first | exact Or.inl rfl | exact Or.inr (Or.inl rfl) | exact Or.inr (Or.inr rfl))) (ma_cons (me_var (i := 4) rfl (by first | exact Or.inl rfl | exact Or.inr (Or.inl rfl) | exact Or.inr (Or.inr rfl))) (ma_cons (me_ty1 b_list rfl (W.free 13 (x := "list")) boot_list (me_var (i := 4) rfl (by first | exact Or.inl rfl | exact Or.inr (Or.inl rfl) | exact Or.inr (Or.inr rfl)))) (ma_cons (me_var (i := 7) rfl (by first | exact Or.inl rfl | exact Or.inr (Or.inl rfl) | exact Or.inr (Or.inr rfl))) ma_nil))))))) (mw_or1 (mt_not (mt_val (me_call (g := ⟨4, 4, [true, false, false, false], [0, 1, 2, 3], []⟩) ((ck__law_right_4 W).mono (k := 10) (by decide)) hr hgd tx rfl (W.glo 61 (x := "_law_right")) (kp__law_right W) (fun G => by simp [FL]) (ma_cons (me_var (i := 2) rfl (by first | exact Or.inl rfl | exact Or.inr (Or.inl rfl) | exact Or.inr (Or.inr rfl))) (ma_cons (me_lst ma_nil) (ma_cons (me_var (i := 5) rfl (by first | exact Or.inl rfl | exact Or.inr (Or.inl rfl) | exact Or.inr (Or.inr rfl))) (ma_cons me_unit ma_nil)))))))))) (mss_one (ms_ret me_bl)) mss_nil))))))))) (mss_one (ms_ret me_bl)))
end Lw
set_option Elab.async false
set_option linter.all false
set_option maxRecDepth 100000
set_option maxHeartbeats 0
namespace Lw
open PySem PySem.W PySem.Calls PyProof.Rows
abbrev Rw : OpenRow := OpenLaw.row PySem.Challenge.rw_mixeddiffs_k14_whole_diffs_taken_apart
abbrev qv : Program := view Rw.prog [44]
abbrev hk : Hook := Mx.hookX 6 fb fn
def ob (s : SharedT) : Mx.AlX := Mx.obsXG 6 fb fn (HandSHeadRun.getT s)
theorem ob_eq (s : SharedT) : ob s = hk.obs s.abs := Mx.obsXG_eq (HandSHeadRun.getT_eq s)
def nm0 : List PySem.Str := ["_wall", "__name__", "InputError", "InvalidText", "InvalidCosts", "InvalidDiff", "InvalidLine", "MOST", "is_line", "is_text"]
def nm1 : List PySem.Str := ["check_text", "check_texts", "is_cost", "are_own", "check_costs", "own_costs", "Costs", "is_integer", "is_pair", "has_form"]
def nm2 : List PySem.Str := ["is_diff", "check_diff", "blocks_of", "kept_lines", "gone_lines", "come_lines", "cost_of", "partner_of", "_law_pot", "_law_draw"]
def nm3 : List PySem.Str := ["_law_pick", "_law_text", "_law_near", "_law_two", "_law_diff", "_law_costs", "_law_blocks", "_law_cost", "_law_by_blocks", "_law_right"]
def nms : List PySem.Str := nm0 ++ nm1 ++ nm2 ++ nm3
theorem run (w : World) : HandSHeadRun.RunEq Rw qv hk ob 6000 nms w := by
  intro os
  kernel_rfl
end Lw
section
open PySem PySem.W PySem.Calls PyProof.Rows
theorem Lw.holds_of (plain : ∀ is : List Int, is.length ≤ 63 → Lw.f_law [.scr (is.map .int)] = .ok (.bl true) [.scr (is.map .int)]) : PySem.Challenge.rw_mixeddiffs_k14_whole_diffs_taken_apart.Holds := by
  w_on; o_law
  refine HandSHeadRun.head_any (r := OpenLaw.row PySem.Challenge.rw_mixeddiffs_k14_whole_diffs_taken_apart) (q := view (OpenLaw.row PySem.Challenge.rw_mixeddiffs_k14_whole_diffs_taken_apart).prog [44]) (H := Lw.hk) (ob := Lw.ob) (M := 6000) (loose := Lw.nms) (d := HandSHeadRun.topDef (OpenLaw.row PySem.Challenge.rw_mixeddiffs_k14_whole_diffs_taken_apart).prog 44) (kwd := []) Lw.ob_eq
    (by kernel_rfl) (fun s => by kernel_rfl) Lw.run (by kernel_rfl) (by kernel_rfl) (by kernel_rfl) (by rfl) (by first | assumption | decide +kernel) (by decide +kernel) ⟨rfl, rfl, rfl, rfl, rfl, by decide +kernel⟩ ?hw ?hc
  case hw => w_witness2
  case hc =>
    refine Mx.walk_ofX (l := PySem.Challenge.rw_mixeddiffs_k14_whole_diffs_taken_apart) (n := 63) (k := 11) (x := "script") rfl (by decide) (by kernel_rfl) ⟨rfl, by decide, by decide⟩ ?F (fun _ _ _ _ _ ⟨_, _, _, _, _, _, _, _, _, _, _, _, e⟩ => e)
    intro w mg fa h Y G hmg0
    obtain ⟨K, KX, c⟩ := Y
    have hmg : mg ("law" : PySem.Str) = some (.ref fa) := by
      have e : (HandSHeadRun.topDef (OpenLaw.row PySem.Challenge.rw_mixeddiffs_k14_whole_diffs_taken_apart).prog 44).name = ("law" : PySem.Str) := by kernel_rfl
      rw [← e]
      exact hmg0
    have W : Lw.Wd K mg := ⟨⟨h, KX, G⟩, c⟩
    obtain ⟨fd, Fd⟩ := Lw.fd_law W
    have eg : mg ("law" : PySem.Str) = some (.ref (He.ga K "law")) := (W.glo 0 (x := "law"))
    have ef : fa = He.ga K "law" := by
      have z := hmg.symm.trans eg
      cases z
      rfl
    subst ef
    have b := L2.FunD.bindsA (ps := ["script"]) Fd fun _ _ _ _ _ _ us hl => match us, hl with | [_], _ => rfl
    refine ⟨K, fd, Mx.spM K 1 Lw.f_law, KX, fun s v => b s [v] rfl, fun H a is hl hO hS => Mx.wish_of hO hS (plain is hl), fun base _ _ => ?_⟩
    exact (Lw.ok_law W Fd).up
end
set_option Elab.async false
set_option linter.all false
set_option maxRecDepth 100000
set_option maxHeartbeats 1000000
/-! Px: loops and comprehensions of the mirrors, in plain words -/
namespace Mx
open PySem L2
/-- a comprehension that leaves the slots as they are -/
theorem lcL_pure {vs : List Nat} {g : GM} {t : BM} {m : EM} {e0 : Env} (hk : killE e0 vs = e0) (f : D → Option D) : ∀ (ds acc : List D),
    (∀ d ∈ ds, ∃ e2, g d e0 = some e2 ∧ ((f d = none ∧ ∃ e3, t e2 = .ok false e3 ∧ killE e3 vs = e0) ∨ ∃ y x e3 e4, f d = some y ∧ t e2 = .ok true e3 ∧ m e3 = .ok x e4 ∧ val e4 x = some y ∧ killE e4 vs = e0)) →
    acc.length + ds.length ≤ 1000000 → lcL vs g t m ds e0 acc = .ok (.own (acc ++ ds.filterMap f)) e0
  | [], acc, _, _ => by simp [lcL, hk]
  | d :: ds, acc, h, hl => by
    obtain ⟨e2, h1, h2⟩ := h d (List.mem_cons_self ..)
    have hr : ∀ x ∈ ds, _ := fun x hx => h x (List.mem_cons_of_mem _ hx)
    simp only [List.length_cons] at hl
    rcases h2 with ⟨hf, e3, ht, hke⟩ | ⟨y, x, e3, e4, hf, ht, hm, hv, hke⟩
    · simp only [lcL, h1, ht, List.filterMap_cons, hf, hke]
      exact lcL_pure hk f ds acc hr (by omega)
    · simp only [lcL, h1, ht, hm, hv, List.filterMap_cons, hf, hke]
      rw [if_pos (by omega), lcL_pure hk f ds (acc ++ [y]) hr (by simp; omega)]
      simp
/-- one that may change the slots: P holds of them between the turns, Y of the items -/
theorem lcL_inv {vs : List Nat} {g : GM} {t : BM} {m : EM} (P : Env → Prop) (Y : D → Prop) : ∀ (ds acc : List D) (e : Env),
    (∀ d ∈ ds, ∀ e, P e → ∃ e2 e3 x e4 y, g d e = some e2 ∧ t e2 = .ok true e3 ∧ m e3 = .ok x e4 ∧ val e4 x = some y ∧ Y y ∧ P (killE e4 vs)) →
    P e → (∀ e, P e → P (killE e vs)) → (∀ y ∈ acc, Y y) → acc.length + ds.length ≤ 1000000 → ∃ acc' e', lcL vs g t m ds e acc = .ok (.own acc') e' ∧ P e' ∧ acc'.length = acc.length + ds.length ∧ ∀ y ∈ acc', Y y
  | [], acc, e, _, hp, hk, ha, _ => ⟨acc, killE e vs, rfl, hk e hp, by simp, ha⟩
  | d :: ds, acc, e, h, hp, hk, ha, hl => by
    obtain ⟨e2, e3, x, e4, y, h1, h2, h3, h4, h5, h6⟩ := h d (List.mem_cons_self ..) e hp
    simp only [List.length_cons] at hl
    obtain ⟨acc', e', r1, r2, r3, r4⟩ := lcL_inv P Y ds (acc ++ [y]) (killE e4 vs) (fun x hx => h x (List.mem_cons_of_mem _ hx)) h6 hk (fun z hz => by
      rcases List.mem_append.mp hz with q | q
      · exact ha z q
      · rw [List.mem_singleton.mp q]; exact h5) (by simp; omega)
    refine ⟨acc', e', ?_, r2, by simp at r3; simp; omega, r4⟩
    simp only [lcL, h1, h2, h3, h4]
    rw [if_pos (by omega)]
    exact r1
/-- for: P holds ahead of the i-th turn -/
theorem forL_ind {g : GM} {b : SM} (P : Nat → Env → Prop) : ∀ (ds : List D) (i : Nat) (e : Env), (∀ j d, ds[j]? = some d → ∀ e, P (i + j) e → ∃ e2 e3, g d e = some e2 ∧ (b e2 = .nx e3 ∨ b e2 = .ct e3) ∧ P (i + j + 1) e3) → P i e → ∃ e', forL g b ds e = .nx e' ∧ P (i + ds.length) e'
  | [], i, e, _, hp => ⟨e, rfl, hp⟩
  | d :: ds, i, e, h, hp => by
    obtain ⟨e2, e3, h1, h2, h3⟩ := h 0 d rfl e hp
    obtain ⟨e', r1, r2⟩ := forL_ind P ds (i + 1) e3 (fun j d' hd e hp => by
      have q := h (j + 1) d' (by simpa using hd) e (by rw [show i + (j + 1) = i + 1 + j by omega]; exact hp)
      rw [show i + (j + 1) + 1 = i + 1 + j + 1 by omega] at q
      exact q) h3
    refine ⟨e', ?_, by rw [show i + (d :: ds).length = i + 1 + ds.length by simp; omega]; exact r2⟩
    rcases h2 with h2 | h2 <;> simp only [forL, h1, h2, r1]
/-- for: P holds between the turns -/
theorem forL_inv {g : GM} {b : SM} (P : Env → Prop) (ds : List D) (e : Env) (h : ∀ d ∈ ds, ∀ e, P e → ∃ e2 e3, g d e = some e2 ∧ (b e2 = .nx e3 ∨ b e2 = .ct e3) ∧ P e3) (hp : P e) : ∃ e', forL g b ds e = .nx e' ∧ P e' :=
  forL_ind (fun _ => P) ds 0 e (fun j d hd e hp => h d (List.mem_of_getElem? hd) e hp) hp
/-- a dict comprehension that leaves the slots as they are -/
theorem dcL_pure {vs : List Nat} {g : GM} {t : BM} {mk mv : EM} {e0 : Env} (hk : killE e0 vs = e0) (f : D → Option (Key × D)) : ∀ (ds : List D) (ks : List Key) (xs : List D) (ls : List Key) (zs : List D),
    (∀ d ∈ ds, ∃ e2, g d e0 = some e2 ∧ ((f d = none ∧ ∃ e3, t e2 = .ok false e3 ∧ killE e3 vs = e0) ∨ ∃ j y k x e3 e4 e5, f d = some (j, y) ∧ t e2 = .ok true e3 ∧ mk e3 = .ok k e4 ∧ (val e4 k).bind keyI = some j ∧ mv e4 = .ok x e5 ∧ val e5 x = some y ∧ killE e5 vs = e0)) →
    (ks ++ ds.filterMap fun d => (f d).map (·.1)) = ls → (xs ++ ds.filterMap fun d => (f d).map (·.2)) = zs → ks.length = xs.length → ndK ls = true → ls.length ≤ 1000000 → dcL vs g t mk mv ds e0 ks xs = .ok (.odct ls zs) e0
  | [], ks, xs, ls, zs, _, e1, e2, _, _, _ => by
    simp only [List.filterMap_nil, List.append_nil] at e1 e2
    subst e1 e2
    simp [dcL, hk]
  | d :: ds, ks, xs, ls, zs, h, e1, e2, hl, nd, hz => by
    obtain ⟨e2', h1, h2⟩ := h d (List.mem_cons_self ..)
    have hr : ∀ x ∈ ds, _ := fun x hx => h x (List.mem_cons_of_mem _ hx)
    rcases h2 with ⟨hf, e3, ht, hke⟩ | ⟨j, y, k, x, e3, e4, e5, hf, ht, hm, hj, hmv, hv, hke⟩
    · simp only [List.filterMap_cons, hf, Option.map_none] at e1 e2
      simp only [dcL, h1, ht, hke]
      exact dcL_pure hk f ds ks xs ls zs hr e1 e2 hl nd hz
    · simp only [List.filterMap_cons, hf, Option.map_some] at e1 e2
      have nd1 : ndK ks = true ∧ j ∉ ks := by
        rw [← e1] at nd
        exact nd_app nd
      have hput : putKey ks xs j y = some (ks ++ [j], xs ++ [y]) := put_new hl nd1.2
      have hlen : ks.length < 1000000 := by
        have := congrArg List.length e1
        simp at this
        omega
      simp only [dcL, h1, ht, hm, hj, hmv, hv]
      rw [if_pos ⟨nd1.1, hlen⟩, hput]
      simp only [hke]
      exact dcL_pure hk f ds (ks ++ [j]) (xs ++ [y]) ls zs hr (by rw [← e1]; simp) (by rw [← e2]; simp) (by simp [hl]) nd hz
where
  nd_app {ks ls : List Key} {j : Key} (h : ndK (ks ++ j :: ls) = true) : ndK ks = true ∧ j ∉ ks := by
    induction ks with
    | nil => exact ⟨rfl, by simp⟩
    | cons k ks ih =>
      simp only [List.cons_append, ndK, Bool.and_eq_true, List.all_eq_true, decide_eq_true_eq] at h ⊢
      obtain ⟨h1, h2⟩ := h
      obtain ⟨i1, i2⟩ := ih h2
      refine ⟨⟨fun x hx => h1 x (List.mem_append_left _ hx), i1⟩, fun z => ?_⟩
      rcases List.mem_cons.mp z with z | z
      · exact h1 j (List.mem_append_right _ (List.mem_cons_self ..)) z
      · exact i2 z
  put_new {ks : List Key} {xs : List D} {j : Key} {y : D} (hl : ks.length = xs.length) (h : j ∉ ks) : putKey ks xs j y = some (ks ++ [j], xs ++ [y]) := by
    induction ks generalizing xs with
    | nil =>
      cases xs with
      | nil => rfl
      | cons => cases hl
    | cons k ks ih =>
      cases xs with
      | nil => cases hl
      | cons x xs =>
        have h1 : k ≠ j := fun z => h (z ▸ List.mem_cons_self ..)
        simp only [putKey, if_neg h1, ih (xs := xs) (by simpa using hl) fun z => h (List.mem_cons_of_mem _ z), List.cons_append]
/-- the same over l, each item put as data by c; p: the test, h: what comes -/
theorem lcL_map {α : Type} {vs : List Nat} {g : GM} {t : BM} {m : EM} {e0 : Env} (hk : killE e0 vs = e0) (c h : α → D) (p : α → Bool) : ∀ (l : List α) (acc : List D),
    (∀ a ∈ l, ∃ e2 e3, g (c a) e0 = some e2 ∧ t e2 = .ok (p a) e3 ∧ ((p a = false ∧ killE e3 vs = e0) ∨ (p a = true ∧ ∃ x e4, m e3 = .ok x e4 ∧ val e4 x = some (h a) ∧ killE e4 vs = e0))) →
    acc.length + l.length ≤ 1000000 → lcL vs g t m (l.map c) e0 acc = .ok (.own (acc ++ (l.filter p).map h)) e0
  | [], acc, _, _ => by simp [lcL, hk]
  | a :: l, acc, hs, hl => by
    obtain ⟨e2, e3, h1, h2, h3⟩ := hs a (List.mem_cons_self ..)
    have hr : ∀ x ∈ l, _ := fun x hx => hs x (List.mem_cons_of_mem _ hx)
    simp only [List.length_cons] at hl
    rcases h3 with ⟨hp, z⟩ | ⟨hp, x, e4, q1, q2, q3⟩
    · rw [hp] at h2
      simp only [List.map_cons, lcL, h1, h2, z, List.filter_cons, hp]
      exact lcL_map hk c h p l acc hr (by omega)
    · rw [hp] at h2
      simp only [List.map_cons, lcL, h1, h2, q1, q2, q3, List.filter_cons, hp, if_true]
      rw [if_pos (by omega), lcL_map hk c h p l (acc ++ [h a]) hr (by simp; omega)]
      simp
theorem lcL_all {α : Type} {vs : List Nat} {g : GM} {m : EM} {e0 : Env} (hk : killE e0 vs = e0) (c h : α → D) (l : List α) (hs : ∀ a ∈ l, ∃ e2 x e4, g (c a) e0 = some e2 ∧ m e2 = .ok x e4 ∧ val e4 x = some (h a) ∧ killE e4 vs = e0) (hl : l.length ≤ 1000000) :
    lcL vs g yesB m (l.map c) e0 [] = .ok (.own (l.map h)) e0 := by
  have z := lcL_map (t := yesB) hk c h (fun _ => true) l [] (fun a ha => by
    obtain ⟨e2, x, e4, h1, h2, h3, h4⟩ := hs a ha
    exact ⟨e2, e2, h1, rfl, .inr ⟨rfl, x, e4, h2, h3, h4⟩⟩) (by simpa using hl)
  have e : l.filter (fun _ => true) = l := List.filter_eq_self.mpr fun _ _ => rfl
  rw [z, e]
  rfl
theorem fz_non : D.non.fz = true := rfl
theorem fz_bl (b : Bool) : (D.bl b).fz = true := rfl
theorem fz_int (i : Int) : (D.int i).fz = true := rfl
theorem fz_str (x : Str) : (D.str x).fz = true := rfl
theorem fz_tup (xs : List D) : (D.tup xs).fz = true := rfl
theorem fz_ptp {xs : List D} : (D.ptp xs).fz = true := rfl
theorem fz_lst (xs : List D) : (D.lst xs).fz = true := rfl
theorem fz_scr (xs : List D) : (D.scr xs).fz = true := rfl
theorem fz_dct (ks : List Key) (xs : List D) : (D.dct ks xs).fz = true := rfl
theorem fz_obj (c : Str) (ns : List Str) (xs : List D) : (D.obj c ns xs).fz = true := rfl
theorem fz_own (xs : List D) : (D.own xs).fz = false := rfl
theorem fz_odct (ks : List Key) (xs : List D) : (D.odct ks xs).fz = false := rfl
theorem fz_oobj (c : Str) (ns : List Str) (xs : List D) : (D.oobj c ns xs).fz = false := rfl
end Mx
set_option Elab.async false
set_option linter.all false
set_option maxRecDepth 100000
set_option maxHeartbeats 1000000
/-! Wk: a mirror run step by step; each step one small lemma (tried by the local macro of wm.txt) -/
namespace Mx
open PySem L2
/-- one of two -/
def cs {α : Type} (x y : α) (c : Bool) : α := match c with
  | true => x
  | false => y
section
variable {α : Type} {x y r : α} {c : Bool} {p : Prop} [Decidable p]
theorem cs_T (h : x = r) : cs x y true = r := h
theorem cs_F (h : y = r) : cs x y false = r := h
theorem cs_Td (hp : p) (h : x = r) : cs x y (decide p) = r := by rw [decide_eq_true hp]; exact h
theorem cs_Fd (hp : ¬p) (h : y = r) : cs x y (decide p) = r := by rw [decide_eq_false hp]; exact h
theorem cs_nT (h : y = r) : cs x y (!true) = r := h
theorem cs_nF (h : x = r) : cs x y (!false) = r := h
theorem cs_nTd (hp : p) (h : y = r) : cs x y (!decide p) = r := by rw [decide_eq_true hp]; exact h
theorem cs_nFd (hp : ¬p) (h : x = r) : cs x y (!decide p) = r := by rw [decide_eq_false hp]; exact h
theorem cs_Th (hc : c = true) (h : x = r) : cs x y c = r := by subst hc; exact h
theorem cs_Fh (hc : c = false) (h : y = r) : cs x y c = r := by subst hc; exact h
end
def seqO (b : SM) (o : Out) : Out := match o with
  | .nx e => b e
  | r => r
section
variable {a b s : SM} {env e e2 e3 e4 : Env} {o r : Out} {d : D}
theorem w_seq (h1 : a env = o) (h2 : seqO b o = r) : seqS a b env = r := by subst h1; exact h2
theorem w_seqN (h : b e = r) : seqO b (.nx e) = r := h
theorem w_seqR : seqO b (.rt d e) = .rt d e := rfl
theorem w_seqB : seqO b (.bk e) = .bk e := rfl
theorem w_seqC : seqO b (.ct e) = .ct e := rfl
theorem w_skip : skipS env = .nx env := rfl
theorem w_brk : brkS env = .bk env := rfl
theorem w_cnt : cntS env = .ct env := rfl
theorem w_retN : retN env = .rt .non env := rfl
variable {t : BM} {c : Bool} {m : EM} {x y : D} {i : Nat} {g : GM}
theorem w_if (h1 : t env = .ok c e) (h2 : cs (a e) (b e) c = r) : ifS t a b env = r := by simp only [ifS, h1, bindS]; exact h2
theorem w_ret (h1 : m env = .ok x e) (h2 : putV e x = some d) : retS m env = .rt d e := by simp only [retS, h1, bindS, ret1, h2]
theorem w_set (h1 : m env = .ok x e) (h2 : putV e x = some d) (hi : i < e.length) (he : e.set i (some d) = e2) : setS i m env = .nx e2 := by simp only [setS, h1, bindS, set1, h2, hi, if_true, he]
theorem w_drop (h1 : m env = .ok x e) : dropS m env = .nx e := by simp only [dropS, h1, bindS]
theorem w_frz (h1 : env[i]? = some (some d)) (h2 : d.frz = y) (he : env.set i (some y) = e) (h3 : b e = r) : frzS i b env = r := by subst h2 he; simp only [frzS, h1, h3]
theorem w_asg (h1 : m env = .ok x e) (h2 : putV e x = some d) (h3 : g d e = some e2) : asgS m g env = .nx e2 := by simp only [asgS, h1, bindS, asg1, h2, h3]
theorem w_par2 {i j : Nat} {am : AM} {x' y' : D} (h1 : am env = .ok [x, y] e) (h2 : putV e x = some x') (h3 : putV e y = some y') (hi : i < e.length) (hj : j < e.length) (e1 : e.set i (some x') = e2) (e4 : e2.set j (some y') = e3) : par2S i j am env = .nx e3 := by
  subst e1 e4
  simp only [par2S, h1, bindS, par2, h2, h3, hi, hj, and_self, if_true]
theorem w_par3 {i j k : Nat} {am : AM} {z x' y' z' : D} {e5 : Env} (h1 : am env = .ok [x, y, z] e) (h2 : putV e x = some x') (h3 : putV e y = some y') (h4 : putV e z = some z') (hi : i < e.length) (hj : j < e.length) (hk : k < e.length) (e1 : e.set i (some x') = e2) (e4 : e2.set j (some y') = e3) (e6 : e3.set k (some z') = e5) : par3S i j k am env = .nx e5 := by
  subst e1 e4 e6
  simp only [par3S, h1, bindS, par3, h2, h3, h4, hi, hj, hk, and_self, if_true]
theorem w_for {im : IM} {g : GM} {ds : List D} (h1 : im env = .ok ds e) (h2 : forL g b ds e = r) : forS im g b env = r := by simp only [forS, h1, bindS, h2]
def finO (ro : List Bool) (ds : List D) (o : Out) : Fr := match o with
  | .nx e => fin ro ds .non e
  | .rt d e => fin ro ds d e
  | .ex x _ => .ex x
  | _ => .bad
theorem w_finN {ro : List Bool} {ds : List D} {f : Fr} (h : fin ro ds .non e = f) : finO ro ds (.nx e) = f := h
theorem w_finR {ro : List Bool} {ds : List D} {f : Fr} (h : fin ro ds d e = f) : finO ro ds (.rt d e) = f := h
theorem w_fn {k : Nat} {ro : List Bool} {ds : List D} {f : Fr} {env : Env} (he : ds.map some ++ List.replicate k none = env) (hb : b env = o) (hf : finO ro ds o = f) : fnM k ro b ds = f := by
  subst he hf hb
  unfold fnM finO
  cases b (ds.map some ++ List.replicate k none) <;> rfl
end
section
variable {a b m : EM} {t t2 : BM} {am bm : AM} {env e e2 e3 e4 : Env} {x y z d x' y' : D} {c : Bool} {i : Nat} {ts xs ds : List D}
theorem w_op {f : D → D → Option D} {r : D} (h1 : a env = .ok x e) (h2 : b e = .ok y e2) (h3 : deref e2 x = some x') (h4 : deref e2 y = some y') (h5 : f x' y' = some r) : opM f a b env = .ok r e2 := by
  simp only [opM, h1, bindR, h2, op2, h3, h4, h5, re]
theorem w_un {f : D → Option D} {r : D} (h1 : a env = .ok x e) (h3 : deref e x = some x') (h5 : f x' = some r) : unM f a env = .ok r e := by
  simp only [unM, h1, bindR, op1, h3, h5, re]
theorem w_bool {b : Bool} (h1 : m env = .ok x e) (h2 : deref e x = some (.bl b)) : boolM m env = .ok b e := by simp only [boolM, h1, bindR, asB, h2]
theorem w_and {r : Re Bool} (h1 : t env = .ok c e) (h2 : cs (t2 e) (.ok false e) c = r) : andB t t2 env = r := by simp only [andB, h1, bindR]; exact h2
theorem w_or {r : Re Bool} (h1 : t env = .ok c e) (h2 : cs (.ok true e) (t2 e) c = r) : orB t t2 env = r := by simp only [orB, h1, bindR]; exact h2
theorem w_not {r : Re Bool} (h1 : t env = .ok c e) (h2 : cs (.ok false e) (.ok true e) c = r) : notB t env = r := by
  simp only [notB, h1, bindR]
  cases c <;> exact h2
theorem cs_not : cs (Re.ok false e) (Re.ok true e) c = Re.ok (!c) e := by cases c <;> rfl
theorem w_andV {r : Re D} (h1 : boolM a env = .ok c e) (h2 : cs (b e) (.ok (.bl false) e) c = r) : andV a b env = r := by simp only [andV, h1, bindR]; exact h2
theorem w_orV {r : Re D} (h1 : boolM a env = .ok c e) (h2 : cs (.ok (.bl true) e) (b e) c = r) : orV a b env = r := by simp only [orV, h1, bindR]; exact h2
theorem w_notV (h1 : boolM a env = .ok c e) : notV a env = .ok (.bl (!c)) e := by simp only [notV, h1, bindR]
theorem w_ifM {r : Re D} (h1 : t env = .ok c e) (h2 : cs (a e) (b e) c = r) : ifM t a b env = r := by simp only [ifM, h1, bindR]; exact h2
theorem w_cons (h1 : a env = .ok x e) (h2 : bm e = .ok xs e2) : consM a bm env = .ok (x :: xs) e2 := by simp only [consM, h1, bindR, h2]
theorem w_nil : nilM env = .ok [] env := rfl
theorem w_cst : cstM d env = .ok d env := rfl
theorem w_yes : yesB env = .ok true env := rfl
theorem w_tup (h1 : am env = .ok ts e) (h2 : vals e ts = some ds) (h3 : ds.length ≤ 1000) : tupM am env = .ok (.tup ds) e := by simp only [tupM, h1, bindR, items, h2, h3, if_true]
theorem w_lst (h1 : am env = .ok ts e) (h2 : vals e ts = some ds) (h3 : ds.length ≤ 1000) : lstM am env = .ok (.own ds) e := by simp only [lstM, h1, bindR, items, h2, h3, if_true]
theorem w_var (h : env[i]? = some (some d)) : varM i env = .ok (.rf i) env := by simp only [varM, h]
theorem w_mov (h : env[i]? = some (some d)) (he : env.set i none = e) : movM i env = .ok d e := by subst he; simp only [movM, h]
theorem w_vfz (h : env[i]? = some (some d)) (hz : d.frz = x) (he : env.set i (some x) = e) : vfzM i env = .ok (.rf i) e := by subst hz he; simp only [vfzM, h]
theorem w_fz (h1 : m env = .ok x e) (h2 : val e x = some y) : fzM m env = .ok y e := by simp only [fzM, h1, bindR, fz1, h2]
theorem w_vals (h1 : val e x = some y) (h2 : vals e xs = some ds) : vals e (x :: xs) = some (y :: ds) := by simp only [vals, h1, h2]
theorem w_vals0 : vals e [] = some [] := rfl
theorem w_valrf (h : e[i]? = some (some d)) (hz : d.fz = true) : val e (.rf i) = some d := by simp only [val, h, hz, if_true]
theorem w_chainT {f g : Int → Int → Bool} {i j k : Int} {r : Bool} (h1 : a env = .ok x e) (h2 : b e = .ok y e2) (q1 : deref e2 x = some (.int i)) (q2 : deref e2 y = some (.int j)) (hf : f i j = true) (h3 : m e2 = .ok z e3) (q3 : deref e3 z = some (.int k)) (hg : g j k = r) : chainM f g a b m env = .ok (.bl r) e3 := by
  simp only [chainM, h1, bindR, h2, q1, q2, Option.bind_some, asI, hf, h3, q3, hg]
theorem w_chainF {f g : Int → Int → Bool} {i j : Int} (h1 : a env = .ok x e) (h2 : b e = .ok y e2) (q1 : deref e2 x = some (.int i)) (q2 : deref e2 y = some (.int j)) (hf : f i j = false) : chainM f g a b m env = .ok (.bl false) e2 := by
  simp only [chainM, h1, bindR, h2, q1, q2, Option.bind_some, asI, hf]
theorem w_slNN {r : D} (h1 : a env = .ok x e) (h2 : deref e x = some x') (h3 : cutD x' none none = some r) : slM a noP noP env = .ok r e := by
  simp only [slM, h1, bindR, noP, cut1, h2, h3, re]
theorem w_slNS {r : D} {j : Int} (h1 : a env = .ok x e) (h2 : m e = .ok y e2) (h3 : deref e2 y = some (.int j)) (h4 : deref e2 x = some x') (h5 : cutD x' none (some j) = some r) : slM a noP (someP m) env = .ok r e2 := by
  simp only [slM, h1, bindR, noP, someP, h2, h3, cut1, h4, h5, re]
theorem w_slSN {r : D} {j : Int} (h1 : a env = .ok x e) (h2 : m e = .ok y e2) (h3 : deref e2 y = some (.int j)) (h4 : deref e2 x = some x') (h5 : cutD x' (some j) none = some r) : slM a (someP m) noP env = .ok r e2 := by
  simp only [slM, h1, bindR, noP, someP, h2, h3, cut1, h4, h5, re]
theorem w_slSS {r : D} {i j : Int} {m2 : EM} (h1 : a env = .ok x e) (h2 : m e = .ok y e2) (h3 : deref e2 y = some (.int i)) (h6 : m2 e2 = .ok z e3) (h7 : deref e3 z = some (.int j)) (h4 : deref e3 x = some x') (h5 : cutD x' (some i) (some j) = some r) : slM a (someP m) (someP m2) env = .ok r e3 := by
  simp only [slM, h1, bindR, someP, h2, h3, h6, h7, cut1, h4, h5, re]
theorem w_app {s : Nat} {acc : List D} (h0 : appM.isOwn env s = true) (h1 : m env = .ok x e) (h2 : val e x = some y) (h3 : e[s]? = some (some (.own acc))) (h4 : fzL acc = true) (h5 : acc.length < 1000000) (he : e.set s (some (.own (acc ++ [y]))) = e2) : appM s m env = .ok .non e2 := by
  subst he
  simp only [appM, h0, h1, bindR, h2, modS, h3, appD, h4, h5, and_self, if_true]
/-! words of Mx19, Mx21 -/
theorem w_lrg2 {i j : Int} (h1 : a env = .ok x e) (h2 : b e = .ok y e2) (h3 : deref e2 x = some (.int i)) (h4 : deref e2 y = some (.int j)) (h5 : small62 i = true) (h6 : small62 j = true) (h7 : (j - i).toNat ≤ 16777216) : lrg2M a b env = .ok (.own (rangeD i (j - i).toNat)) e2 := by
  simp only [lrg2M, h1, bindR, h2, lrg2, h3, h4, lrg, h5, h6, Bool.true_and, decide_eq_true_eq, h7, if_true]
theorem w_get1 {ks ls : List Key} {zs : List D} {j : Key} {r : D} (h1 : a env = .ok x e) (h2 : deref e x = some d) (h3 : dictI d = some (ks, xs)) (h4 : b e = .ok y e2) (h5 : deref e2 x = some x') (h6 : dictI x' = some (ls, zs)) (h7 : deref e2 y = some y') (h8 : keyI y' = some j) (h9 : (getKey ls zs j).getD .non = r) : dget1M a b env = .ok r e2 := by
  subst h9
  simp only [dget1M, h1, bindR, h2, Option.bind_some, h3, h4, get1, h5, h6, h7, h8]
theorem w_get2 {ks ls : List Key} {zs : List D} {j : Key} {r w : D} (h1 : a env = .ok x e) (h2 : deref e x = some d) (h3 : dictI d = some (ks, xs)) (h4 : b e = .ok y e2) (h10 : m e2 = .ok z e3) (h5 : deref e3 x = some x') (h6 : dictI x' = some (ls, zs)) (h7 : deref e3 y = some y') (h8 : keyI y' = some j) (h11 : val e3 z = some w) (h9 : (getKey ls zs j).getD w = r) : dgetM a b m env = .ok r e3 := by
  subst h9
  simp only [dgetM, h1, bindR, h2, Option.bind_some, h3, h4, h10, get2, h5, h6, h7, h8, h11]
  cases getKey ls zs j <;> rfl
theorem w_own (h1 : am env = .ok ts e) (h2 : ts.all noRf = true) (h3 : ts.length ≤ 1000) : ownM am env = .ok (.own ts) e := by simp only [ownM, h1, bindR, h2, h3, and_self, if_true]
theorem w_apo {s : Nat} {acc : List D} (h0 : appM.isOwn env s = true) (h1 : m env = .ok x e) (h3 : e[s]? = some (some (.own acc))) (h4 : noRf x = true) (h5 : acc.length < 1000000) (he : e.set s (some (.own (acc ++ [x]))) = e2) : apoM s m env = .ok .non e2 := by
  subst he
  simp only [apoM, h0, h1, bindR, h3, h4, h5, and_self, if_true]
theorem w_forAp {s t : Nat} {ys : List D} (h1 : env[t]? = some (some (.own ds))) (h2 : ¬ (s = t ∨ env.length ≤ s)) (h3 : appAll ds = some ys) (he : (env.set s none).set t (some (.own ys)) = e) : forAp s t env = .nx e := by
  subst he
  simp only [forAp, h2, if_false, h1, h3]
/-! iterators -/
theorem w_seqIt (h1 : m env = .ok x e) (h2 : val e x = some y) (h3 : seqD y = some ds) : seqIt m env = .ok ds e := by simp only [seqIt, h1, bindR, seq1, h2, Option.bind_some, h3]
theorem w_rng1 {j : Int} (h1 : a env = .ok x e) (h2 : deref e x = some (.int j)) (h3 : small62 j = true) : rngI (lenA 1 (consM a nilM)) env = .ok (rangeD 0 j.toNat) e := by
  simp only [rngI, lenA, consM, h1, bindR, nilM, List.length_cons, List.length_nil, if_true, rng1, h2, h3]
theorem w_rng2 {i j : Int} (h1 : a env = .ok x e) (h2 : b e = .ok y e2) (h3 : deref e2 x = some (.int i)) (h4 : deref e2 y = some (.int j)) (h5 : small62 i = true) (h6 : small62 j = true) : rngI (lenA 2 (consM a (consM b nilM))) env = .ok (rangeD i (j - i).toNat) e2 := by
  simp only [rngI, lenA, consM, h1, bindR, h2, nilM, List.length_cons, List.length_nil, if_true, rng1, h3, h4, h5, h6, Bool.and_self]
theorem w_enum (h1 : m env = .ok x e) (h2 : val e x = some (.lst ds)) : enumI m env = .ok (enumD 0 ds) e := by simp only [enumI, h1, bindR, enum1, h2]
theorem w_items {ks : List Key} (h1 : m env = .ok x e) (h2 : val e x = some (.dct ks ds)) : itemsI m env = .ok (itemsD ks ds) e := by simp only [itemsI, h1, bindR, items1, h2]
theorem w_zip {ys zs : List D} (h1 : a env = .ok x e) (h2 : b e = .ok y e2) (h3 : val e2 x = some x') (h4 : val e2 y = some y') (h5 : seqD x' = some ys) (h6 : seqD y' = some zs) (h7 : isTp x' = isTp y') : zipI a b env = .ok (zipD ys zs) e2 := by
  simp only [zipI, h1, bindR, h2, zip1, h3, h4, h5, h6, h7, if_true]
/-! targets -/
theorem w_gname (hi : i < env.length) (he : env.set i (some d) = e) : nameG i d env = some e := by simp only [nameG, hi, if_true, he]
variable {g : GM} {gs : GsM}
theorem w_gtup {n : Nat} (hn : ds.length = n) (h : gs ds env = some e) : tupG n gs (.tup ds) env = some e := by simp only [tupG, unpI, hn, if_true, h]
theorem w_gcons (h1 : g d env = some e) (h2 : gs ds e = some e2) : consG g gs (d :: ds) env = some e2 := by simp only [consG, h1, h2]
theorem w_gnil : nilG [] env = some env := rfl
theorem w_gsub {k' y1 d0 d1 : D} (h0 : there env i = true) (h1 : m env = .ok x e) (h2 : deref e x = some k') (h3 : val e d = some y1) (h4 : e[i]? = some (some d0)) (h5 : putD k' y1 d0 = some d1) (he : e.set i (some d1) = e2) : subG i m d env = some e2 := by
  subst he
  simp only [subG, h0, if_true, h1, h2, h3, modS, h4, h5]
theorem w_lc {n : Nat} {vs : List Nat} {im : IM} {r : Re D} {e0 : Env} (h1 : im env = .ok ds e) (hl : lcL vs g t m ds e0 [] = r) (hn : e.length = n) (hk : killE e vs = e0) : lcM n vs im g t m env = r := by
  simp only [lcM, h1, bindR, hn, if_true, hk, hl]
end
/-! calls -/
section
variable {g : GM} {f : FM} {am : AM} {om : EM} {env e e2 e3 : Env} {x r d d' : D} {ts vs ws ds ds' xs : List D} {ns : List Str} {c mn : Str} {n np i : Nat} {ro : List Bool} {sel : List Nat} {dds : List D}
theorem argK_all : ∀ {ro : List Bool} {ts vs : List D}, ro.all (!·) = true → vals e ts = some vs → argK ro e ts = some (vs.map .v)
  | ro, [], vs, _, h => by
    cases h
    cases ro <;> rfl
  | [], t :: ts, vs, hr, h => by
    obtain ⟨x, ys, rfl, h1, h2⟩ := vals_cons h
    simp only [argK, h1, argK_all (ro := []) rfl h2, Option.map_some, List.map_cons]
  | true :: ro, _ :: _, _, hr, _ => by simp at hr
  | false :: ro, t :: ts, vs, hr, h => by
    obtain ⟨x, ys, rfl, h1, h2⟩ := vals_cons h
    have hr' : ro.all (!·) = true := by simpa using hr
    simp only [argK, h1, argK_all hr' h2, Option.map_some, List.map_cons]
theorem grab_all : ∀ (vs : List D), grab (vs.map .v) e = some (vs, e)
  | [] => rfl
  | v :: vs => by simp only [List.map_cons, grab, grab_all vs]
theorem putB_all : ∀ {vs ds' : List D}, ds'.length = vs.length → putB (vs.map .v) ds' e = some e
  | [], [], _ => rfl
  | v :: vs, d :: ds', h => by simp only [List.map_cons, putB]; exact putB_all (by simpa using h)
  | [], _ :: _, h => by simp at h
  | _ :: _, [], h => by simp at h
theorem pick_map (sel : List Nat) (vs : List D) : pick sel (vs.map Ar.v) = (pick sel vs).map Ar.v := by
  simp only [pick, List.getElem?_map, List.map_filterMap]
theorem take_all (hr : ro.all (!·) = true) (hn : ts.length = n) (hv : vals e ts = some vs) (hp : pick sel (vs ++ dds) = ws) (hl : ws.length = np) : take0 ⟨n, np, ro, sel, dds⟩ ts e = some (ws.map .v, ws, e) := by
  have q : pick sel (vs.map Ar.v ++ dds.map .v) = ws.map .v := by rw [← List.map_append, pick_map, hp]
  simp only [take0, hn, if_true, argK_all hr hv, q, grab_all, hl]
theorem w_callV (ha : am env = .ok ts e) (hr : ro.all (!·) = true) (hn : ts.length = n) (hv : vals e ts = some vs) (hp : pick sel (vs ++ dds) = ws) (hl : ws.length = np) (hf : f ws = .ok r ds') (hl2 : ds'.length = np) : callM ⟨n, np, ro, sel, dds⟩ f am env = .ok r e := by
  simp only [callM, ha, bindR, call1, take_all hr hn hv hp hl, hf, putB_all (hl2.trans hl.symm)]
theorem w_methV (ho : om env = .ok x e) (hd : deref e x = some (.obj c ns xs)) (hm : mn ∉ ns) (ha : am e = .ok ts e2) (hr : ro.all (!·) = true) (hn : (x :: ts).length = n) (hv : vals e2 (x :: ts) = some vs) (hp : pick sel (vs ++ dds) = ws) (hl : ws.length = np) (hf : f ws = .ok r ds') (hl2 : ds'.length = np) : methM ⟨n, np, ro, sel, dds⟩ c mn f om am env = .ok r e2 := by
  simp only [methM, ho, bindR, meth1, hd, ha, call1, take_all hr hn hv hp hl, hf, putB_all (hl2.trans hl.symm)]
  rw [if_pos ⟨trivial, hm⟩]
theorem w_make (ha : am env = .ok ts e) (hr : ro.all (!·) = true) (hn : ts.length = n) (hv : vals e ts = some vs) (hp : pick sel (vs ++ dds) = ws) (hl : ws.length = np) (hf : f (.oobj c [] [] :: ws) = .ok .non (r :: ds')) (hl2 : ds'.length = np) : makeM ⟨n, np, ro, sel, dds⟩ c f am env = .ok r e := by
  simp only [makeM, ha, bindR, make1, take_all hr hn hv hp hl, hf, putB_all (hl2.trans hl.symm)]
theorem pick_range {α : Type} (xs : List α) : pick (List.range xs.length) xs = xs := by
  simp only [pick]
  have : ∀ (n : Nat) (ys : List α), n = ys.length → (List.range n).filterMap (ys[·]?) = ys := by
    intro n ys h
    subst h
    induction ys with
    | nil => rfl
    | cons y ys ih =>
      rw [List.length_cons, List.range_succ_eq_map, List.filterMap_cons, List.filterMap_map]
      simp only [List.getElem?_cons_zero]
      congr 1
  exact this _ _ rfl
/-- the first argument is a slot's own value, changed by the callee -/
theorem w_callM (ha : am env = .ok (.rf i :: ts) e) (hr : ro.all (!·) = true) (hn : ts.length + 1 = n) (hv : vals e ts = some vs) (hs : sel = List.range n) (hi : e[i]? = some (some d)) (hf : f (d :: vs) = .ok r (d' :: ds')) (hl : ds'.length + 1 = n) (he : e.set i (some d') = e2) : callM ⟨n, n, true :: ro, sel, []⟩ f am env = .ok r e2 := by
  have hvl : vs.length = ts.length := by
    have : ∀ {ts vs : List D}, vals e ts = some vs → vs.length = ts.length := by
      intro ts
      induction ts with
      | nil => intro vs h; cases h; rfl
      | cons t ts ih =>
        intro vs h
        obtain ⟨x, ys, rfl, h1, h2⟩ := vals_cons h
        simp [ih h2]
    exact this hv
  have hlt : i < e.length := (List.getElem?_eq_some_iff.mp hi).1
  have p : pick sel (Ar.s i :: vs.map Ar.v ++ ([] : List D).map .v) = Ar.s i :: vs.map .v := by
    rw [hs, List.map_nil, List.append_nil]
    have := pick_range (Ar.s i :: vs.map Ar.v)
    rwa [show (Ar.s i :: vs.map Ar.v).length = n by simp; omega] at this
  have g1 : grab (Ar.s i :: vs.map Ar.v) e = some (d :: vs, e.set i none) := by simp only [grab, grab_all, hi]
  have t0 : take0 ⟨n, n, true :: ro, sel, []⟩ (.rf i :: ts) e = some (Ar.s i :: vs.map .v, d :: vs, e.set i none) := by
    have k : argK (true :: ro) e (.rf i :: ts) = some (Ar.s i :: vs.map Ar.v) := by simp only [argK, argK_all hr hv, Option.map_some]
    simp only [take0, List.length_cons, hn, if_true, k, p, g1]
    rw [if_pos (by omega)]
  have pb : putB (Ar.s i :: vs.map .v) (d' :: ds') (e.set i none) = some e2 := by
    simp only [putB, List.getElem?_set_self hlt, List.set_set, he]
    exact putB_all (by omega)
  simp only [callM, ha, bindR, call1, t0, hf, pb]
end
theorem ls0 {α : Type} {x y : α} {l : List α} : (x :: l).set 0 y = y :: l := rfl
theorem ls1 {α : Type} {a0 x y : α} {l : List α} : (a0 :: x :: l).set 1 y = a0 :: y :: l := rfl
theorem ls2 {α : Type} {a0 a1 x y : α} {l : List α} : (a0 :: a1 :: x :: l).set 2 y = a0 :: a1 :: y :: l := rfl
theorem ls3 {α : Type} {a0 a1 a2 x y : α} {l : List α} : (a0 :: a1 :: a2 :: x :: l).set 3 y = a0 :: a1 :: a2 :: y :: l := rfl
theorem ls4 {α : Type} {a0 a1 a2 a3 x y : α} {l : List α} : (a0 :: a1 :: a2 :: a3 :: x :: l).set 4 y = a0 :: a1 :: a2 :: a3 :: y :: l := rfl
theorem ls5 {α : Type} {a0 a1 a2 a3 a4 x y : α} {l : List α} : (a0 :: a1 :: a2 :: a3 :: a4 :: x :: l).set 5 y = a0 :: a1 :: a2 :: a3 :: a4 :: y :: l := rfl
theorem ls6 {α : Type} {a0 a1 a2 a3 a4 a5 x y : α} {l : List α} : (a0 :: a1 :: a2 :: a3 :: a4 :: a5 :: x :: l).set 6 y = a0 :: a1 :: a2 :: a3 :: a4 :: a5 :: y :: l := rfl
theorem ls7 {α : Type} {a0 a1 a2 a3 a4 a5 a6 x y : α} {l : List α} : (a0 :: a1 :: a2 :: a3 :: a4 :: a5 :: a6 :: x :: l).set 7 y = a0 :: a1 :: a2 :: a3 :: a4 :: a5 :: a6 :: y :: l := rfl
theorem ls8 {α : Type} {a0 a1 a2 a3 a4 a5 a6 a7 x y : α} {l : List α} : (a0 :: a1 :: a2 :: a3 :: a4 :: a5 :: a6 :: a7 :: x :: l).set 8 y = a0 :: a1 :: a2 :: a3 :: a4 :: a5 :: a6 :: a7 :: y :: l := rfl
theorem ls9 {α : Type} {a0 a1 a2 a3 a4 a5 a6 a7 a8 x y : α} {l : List α} : (a0 :: a1 :: a2 :: a3 :: a4 :: a5 :: a6 :: a7 :: a8 :: x :: l).set 9 y = a0 :: a1 :: a2 :: a3 :: a4 :: a5 :: a6 :: a7 :: a8 :: y :: l := rfl
theorem ls10 {α : Type} {a0 a1 a2 a3 a4 a5 a6 a7 a8 a9 x y : α} {l : List α} : (a0 :: a1 :: a2 :: a3 :: a4 :: a5 :: a6 :: a7 :: a8 :: a9 :: x :: l).set 10 y = a0 :: a1 :: a2 :: a3 :: a4 :: a5 :: a6 :: a7 :: a8 :: a9 :: y :: l := rfl
theorem ls11 {α : Type} {a0 a1 a2 a3 a4 a5 a6 a7 a8 a9 a10 x y : α} {l : List α} : (a0 :: a1 :: a2 :: a3 :: a4 :: a5 :: a6 :: a7 :: a8 :: a9 :: a10 :: x :: l).set 11 y = a0 :: a1 :: a2 :: a3 :: a4 :: a5 :: a6 :: a7 :: a8 :: a9 :: a10 :: y :: l := rfl
theorem ls12 {α : Type} {a0 a1 a2 a3 a4 a5 a6 a7 a8 a9 a10 a11 x y : α} {l : List α} : (a0 :: a1 :: a2 :: a3 :: a4 :: a5 :: a6 :: a7 :: a8 :: a9 :: a10 :: a11 :: x :: l).set 12 y = a0 :: a1 :: a2 :: a3 :: a4 :: a5 :: a6 :: a7 :: a8 :: a9 :: a10 :: a11 :: y :: l := rfl
theorem ls13 {α : Type} {a0 a1 a2 a3 a4 a5 a6 a7 a8 a9 a10 a11 a12 x y : α} {l : List α} : (a0 :: a1 :: a2 :: a3 :: a4 :: a5 :: a6 :: a7 :: a8 :: a9 :: a10 :: a11 :: a12 :: x :: l).set 13 y = a0 :: a1 :: a2 :: a3 :: a4 :: a5 :: a6 :: a7 :: a8 :: a9 :: a10 :: a11 :: a12 :: y :: l := rfl
theorem ls14 {α : Type} {a0 a1 a2 a3 a4 a5 a6 a7 a8 a9 a10 a11 a12 a13 x y : α} {l : List α} : (a0 :: a1 :: a2 :: a3 :: a4 :: a5 :: a6 :: a7 :: a8 :: a9 :: a10 :: a11 :: a12 :: a13 :: x :: l).set 14 y = a0 :: a1 :: a2 :: a3 :: a4 :: a5 :: a6 :: a7 :: a8 :: a9 :: a10 :: a11 :: a12 :: a13 :: y :: l := rfl
theorem ls15 {α : Type} {a0 a1 a2 a3 a4 a5 a6 a7 a8 a9 a10 a11 a12 a13 a14 x y : α} {l : List α} : (a0 :: a1 :: a2 :: a3 :: a4 :: a5 :: a6 :: a7 :: a8 :: a9 :: a10 :: a11 :: a12 :: a13 :: a14 :: x :: l).set 15 y = a0 :: a1 :: a2 :: a3 :: a4 :: a5 :: a6 :: a7 :: a8 :: a9 :: a10 :: a11 :: a12 :: a13 :: a14 :: y :: l := rfl
theorem ls16 {α : Type} {a0 a1 a2 a3 a4 a5 a6 a7 a8 a9 a10 a11 a12 a13 a14 a15 x y : α} {l : List α} : (a0 :: a1 :: a2 :: a3 :: a4 :: a5 :: a6 :: a7 :: a8 :: a9 :: a10 :: a11 :: a12 :: a13 :: a14 :: a15 :: x :: l).set 16 y = a0 :: a1 :: a2 :: a3 :: a4 :: a5 :: a6 :: a7 :: a8 :: a9 :: a10 :: a11 :: a12 :: a13 :: a14 :: a15 :: y :: l := rfl
theorem ls17 {α : Type} {a0 a1 a2 a3 a4 a5 a6 a7 a8 a9 a10 a11 a12 a13 a14 a15 a16 x y : α} {l : List α} : (a0 :: a1 :: a2 :: a3 :: a4 :: a5 :: a6 :: a7 :: a8 :: a9 :: a10 :: a11 :: a12 :: a13 :: a14 :: a15 :: a16 :: x :: l).set 17 y = a0 :: a1 :: a2 :: a3 :: a4 :: a5 :: a6 :: a7 :: a8 :: a9 :: a10 :: a11 :: a12 :: a13 :: a14 :: a15 :: a16 :: y :: l := rfl
theorem ls18 {α : Type} {a0 a1 a2 a3 a4 a5 a6 a7 a8 a9 a10 a11 a12 a13 a14 a15 a16 a17 x y : α} {l : List α} : (a0 :: a1 :: a2 :: a3 :: a4 :: a5 :: a6 :: a7 :: a8 :: a9 :: a10 :: a11 :: a12 :: a13 :: a14 :: a15 :: a16 :: a17 :: x :: l).set 18 y = a0 :: a1 :: a2 :: a3 :: a4 :: a5 :: a6 :: a7 :: a8 :: a9 :: a10 :: a11 :: a12 :: a13 :: a14 :: a15 :: a16 :: a17 :: y :: l := rfl
theorem ls19 {α : Type} {a0 a1 a2 a3 a4 a5 a6 a7 a8 a9 a10 a11 a12 a13 a14 a15 a16 a17 a18 x y : α} {l : List α} : (a0 :: a1 :: a2 :: a3 :: a4 :: a5 :: a6 :: a7 :: a8 :: a9 :: a10 :: a11 :: a12 :: a13 :: a14 :: a15 :: a16 :: a17 :: a18 :: x :: l).set 19 y = a0 :: a1 :: a2 :: a3 :: a4 :: a5 :: a6 :: a7 :: a8 :: a9 :: a10 :: a11 :: a12 :: a13 :: a14 :: a15 :: a16 :: a17 :: a18 :: y :: l := rfl
theorem ls20 {α : Type} {a0 a1 a2 a3 a4 a5 a6 a7 a8 a9 a10 a11 a12 a13 a14 a15 a16 a17 a18 a19 x y : α} {l : List α} : (a0 :: a1 :: a2 :: a3 :: a4 :: a5 :: a6 :: a7 :: a8 :: a9 :: a10 :: a11 :: a12 :: a13 :: a14 :: a15 :: a16 :: a17 :: a18 :: a19 :: x :: l).set 20 y = a0 :: a1 :: a2 :: a3 :: a4 :: a5 :: a6 :: a7 :: a8 :: a9 :: a10 :: a11 :: a12 :: a13 :: a14 :: a15 :: a16 :: a17 :: a18 :: a19 :: y :: l := rfl
theorem ls21 {α : Type} {a0 a1 a2 a3 a4 a5 a6 a7 a8 a9 a10 a11 a12 a13 a14 a15 a16 a17 a18 a19 a20 x y : α} {l : List α} : (a0 :: a1 :: a2 :: a3 :: a4 :: a5 :: a6 :: a7 :: a8 :: a9 :: a10 :: a11 :: a12 :: a13 :: a14 :: a15 :: a16 :: a17 :: a18 :: a19 :: a20 :: x :: l).set 21 y = a0 :: a1 :: a2 :: a3 :: a4 :: a5 :: a6 :: a7 :: a8 :: a9 :: a10 :: a11 :: a12 :: a13 :: a14 :: a15 :: a16 :: a17 :: a18 :: a19 :: a20 :: y :: l := rfl
theorem ls22 {α : Type} {a0 a1 a2 a3 a4 a5 a6 a7 a8 a9 a10 a11 a12 a13 a14 a15 a16 a17 a18 a19 a20 a21 x y : α} {l : List α} : (a0 :: a1 :: a2 :: a3 :: a4 :: a5 :: a6 :: a7 :: a8 :: a9 :: a10 :: a11 :: a12 :: a13 :: a14 :: a15 :: a16 :: a17 :: a18 :: a19 :: a20 :: a21 :: x :: l).set 22 y = a0 :: a1 :: a2 :: a3 :: a4 :: a5 :: a6 :: a7 :: a8 :: a9 :: a10 :: a11 :: a12 :: a13 :: a14 :: a15 :: a16 :: a17 :: a18 :: a19 :: a20 :: a21 :: y :: l := rfl
theorem ls23 {α : Type} {a0 a1 a2 a3 a4 a5 a6 a7 a8 a9 a10 a11 a12 a13 a14 a15 a16 a17 a18 a19 a20 a21 a22 x y : α} {l : List α} : (a0 :: a1 :: a2 :: a3 :: a4 :: a5 :: a6 :: a7 :: a8 :: a9 :: a10 :: a11 :: a12 :: a13 :: a14 :: a15 :: a16 :: a17 :: a18 :: a19 :: a20 :: a21 :: a22 :: x :: l).set 23 y = a0 :: a1 :: a2 :: a3 :: a4 :: a5 :: a6 :: a7 :: a8 :: a9 :: a10 :: a11 :: a12 :: a13 :: a14 :: a15 :: a16 :: a17 :: a18 :: a19 :: a20 :: a21 :: a22 :: y :: l := rfl
theorem ls24 {α : Type} {a0 a1 a2 a3 a4 a5 a6 a7 a8 a9 a10 a11 a12 a13 a14 a15 a16 a17 a18 a19 a20 a21 a22 a23 x y : α} {l : List α} : (a0 :: a1 :: a2 :: a3 :: a4 :: a5 :: a6 :: a7 :: a8 :: a9 :: a10 :: a11 :: a12 :: a13 :: a14 :: a15 :: a16 :: a17 :: a18 :: a19 :: a20 :: a21 :: a22 :: a23 :: x :: l).set 24 y = a0 :: a1 :: a2 :: a3 :: a4 :: a5 :: a6 :: a7 :: a8 :: a9 :: a10 :: a11 :: a12 :: a13 :: a14 :: a15 :: a16 :: a17 :: a18 :: a19 :: a20 :: a21 :: a22 :: a23 :: y :: l := rfl
theorem ls25 {α : Type} {a0 a1 a2 a3 a4 a5 a6 a7 a8 a9 a10 a11 a12 a13 a14 a15 a16 a17 a18 a19 a20 a21 a22 a23 a24 x y : α} {l : List α} : (a0 :: a1 :: a2 :: a3 :: a4 :: a5 :: a6 :: a7 :: a8 :: a9 :: a10 :: a11 :: a12 :: a13 :: a14 :: a15 :: a16 :: a17 :: a18 :: a19 :: a20 :: a21 :: a22 :: a23 :: a24 :: x :: l).set 25 y = a0 :: a1 :: a2 :: a3 :: a4 :: a5 :: a6 :: a7 :: a8 :: a9 :: a10 :: a11 :: a12 :: a13 :: a14 :: a15 :: a16 :: a17 :: a18 :: a19 :: a20 :: a21 :: a22 :: a23 :: a24 :: y :: l := rfl
theorem pk0 {α : Type} : pick [] ([] ++ []) = ([] : List α) := rfl
theorem pk1 {α : Type} {a0 : α} : pick [0] ([a0] ++ []) = ([a0] : List α) := rfl
theorem pk2 {α : Type} {a0 a1 : α} : pick [0, 1] ([a0, a1] ++ []) = ([a0, a1] : List α) := rfl
theorem pk3 {α : Type} {a0 a1 a2 : α} : pick [0, 1, 2] ([a0, a1, a2] ++ []) = ([a0, a1, a2] : List α) := rfl
theorem pk4 {α : Type} {a0 a1 a2 a3 : α} : pick [0, 1, 2, 3] ([a0, a1, a2, a3] ++ []) = ([a0, a1, a2, a3] : List α) := rfl
theorem pk5 {α : Type} {a0 a1 a2 a3 a4 : α} : pick [0, 1, 2, 3, 4] ([a0, a1, a2, a3, a4] ++ []) = ([a0, a1, a2, a3, a4] : List α) := rfl
theorem pk6 {α : Type} {a0 a1 a2 a3 a4 a5 : α} : pick [0, 1, 2, 3, 4, 5] ([a0, a1, a2, a3, a4, a5] ++ []) = ([a0, a1, a2, a3, a4, a5] : List α) := rfl
theorem pk7 {α : Type} {a0 a1 a2 a3 a4 a5 a6 : α} : pick [0, 1, 2, 3, 4, 5, 6] ([a0, a1, a2, a3, a4, a5, a6] ++ []) = ([a0, a1, a2, a3, a4, a5, a6] : List α) := rfl
theorem pk8 {α : Type} {a0 a1 a2 a3 a4 a5 a6 a7 : α} : pick [0, 1, 2, 3, 4, 5, 6, 7] ([a0, a1, a2, a3, a4, a5, a6, a7] ++ []) = ([a0, a1, a2, a3, a4, a5, a6, a7] : List α) := rfl
theorem pk_sw2 {α : Type} {a b : α} : pick [1, 0] ([a, b] ++ []) = [b, a] := rfl
theorem pk_sw3 {α : Type} {a b c : α} : pick [2, 1, 0] ([a, b, c] ++ []) = [c, b, a] := rfl
theorem rp0 : ([] : List D).map some ++ List.replicate 0 none = ([] : Env) := rfl
theorem rp1 : ([] : List D).map some ++ List.replicate 1 none = ([none] : Env) := rfl
theorem rp2 : ([] : List D).map some ++ List.replicate 2 none = ([none, none] : Env) := rfl
theorem rp3 : ([] : List D).map some ++ List.replicate 3 none = ([none, none, none] : Env) := rfl
theorem rp4 : ([] : List D).map some ++ List.replicate 4 none = ([none, none, none, none] : Env) := rfl
theorem rp5 : ([] : List D).map some ++ List.replicate 5 none = ([none, none, none, none, none] : Env) := rfl
theorem rp6 : ([] : List D).map some ++ List.replicate 6 none = ([none, none, none, none, none, none] : Env) := rfl
theorem rp7 : ([] : List D).map some ++ List.replicate 7 none = ([none, none, none, none, none, none, none] : Env) := rfl
theorem rp8 : ([] : List D).map some ++ List.replicate 8 none = ([none, none, none, none, none, none, none, none] : Env) := rfl
theorem rp9 : ([] : List D).map some ++ List.replicate 9 none = ([none, none, none, none, none, none, none, none, none] : Env) := rfl
theorem rp10 : ([] : List D).map some ++ List.replicate 10 none = ([none, none, none, none, none, none, none, none, none, none] : Env) := rfl
theorem rp11 : ([] : List D).map some ++ List.replicate 11 none = ([none, none, none, none, none, none, none, none, none, none, none] : Env) := rfl
theorem rp12 : ([] : List D).map some ++ List.replicate 12 none = ([none, none, none, none, none, none, none, none, none, none, none, none] : Env) := rfl
theorem rp13 : ([] : List D).map some ++ List.replicate 13 none = ([none, none, none, none, none, none, none, none, none, none, none, none, none] : Env) := rfl
theorem rp14 : ([] : List D).map some ++ List.replicate 14 none = ([none, none, none, none, none, none, none, none, none, none, none, none, none, none] : Env) := rfl
theorem rp15 : ([] : List D).map some ++ List.replicate 15 none = ([none, none, none, none, none, none, none, none, none, none, none, none, none, none, none] : Env) := rfl
theorem rp16 : ([] : List D).map some ++ List.replicate 16 none = ([none, none, none, none, none, none, none, none, none, none, none, none, none, none, none, none] : Env) := rfl
theorem rp17 : ([] : List D).map some ++ List.replicate 17 none = ([none, none, none, none, none, none, none, none, none, none, none, none, none, none, none, none, none] : Env) := rfl
theorem rp18 : ([] : List D).map some ++ List.replicate 18 none = ([none, none, none, none, none, none, none, none, none, none, none, none, none, none, none, none, none, none] : Env) := rfl
theorem rp19 : ([] : List D).map some ++ List.replicate 19 none = ([none, none, none, none, none, none, none, none, none, none, none, none, none, none, none, none, none, none, none] : Env) := rfl
theorem rp20 : ([] : List D).map some ++ List.replicate 20 none = ([none, none, none, none, none, none, none, none, none, none, none, none, none, none, none, none, none, none, none, none] : Env) := rfl
theorem rp21 : ([] : List D).map some ++ List.replicate 21 none = ([none, none, none, none, none, none, none, none, none, none, none, none, none, none, none, none, none, none, none, none, none] : Env) := rfl
theorem rp22 : ([] : List D).map some ++ List.replicate 22 none = ([none, none, none, none, none, none, none, none, none, none, none, none, none, none, none, none, none, none, none, none, none, none] : Env) := rfl
theorem rp23 : ([] : List D).map some ++ List.replicate 23 none = ([none, none, none, none, none, none, none, none, none, none, none, none, none, none, none, none, none, none, none, none, none, none, none] : Env) := rfl
theorem rp24 : ([] : List D).map some ++ List.replicate 24 none = ([none, none, none, none, none, none, none, none, none, none, none, none, none, none, none, none, none, none, none, none, none, none, none, none] : Env) := rfl
theorem rp25 : ([] : List D).map some ++ List.replicate 25 none = ([none, none, none, none, none, none, none, none, none, none, none, none, none, none, none, none, none, none, none, none, none, none, none, none, none] : Env) := rfl
theorem env_cons {x : D} {l : List D} {r e : Env} (h : l.map some ++ r = e) : (x :: l).map some ++ r = some x :: e := by subst h; rfl
def D.nrf : D → Bool
  | .rf _ => false
  | _ => true
theorem val_of {e : Env} {d : D} (h : d.fz = true) : val e d = some d := by cases d <;> first | rfl | cases h
theorem val_ownL {e : Env} {ds : List D} (h : frzL ds = ds) : val e (.own ds) = some (.lst ds) := by simp only [val, D.frz, h]
theorem deref_of {e : Env} {d : D} (h : d.nrf = true) : deref e d = some d := by cases d <;> first | rfl | cases h
theorem putV_of {e : Env} {d : D} (h : d.nrf = true) : putV e d = some d := by cases d <;> first | rfl | cases h
theorem w_derf {e : Env} {d : D} {i : Nat} (h : e[i]? = some (some d)) : deref e (.rf i) = some d := by simp only [deref, h]
theorem w_puvf {e : Env} {d : D} {i : Nat} (h : e[i]? = some (some d)) (hz : d.fz = true) : putV e (.rf i) = some d := by simp only [putV, h, hz, if_true]
theorem notin_of {x : Str} {xs : List Str} (h : ¬ x ∈ xs) : ¬ x ∈ xs := h
theorem small_le {i : Int} (h : 0 ≤ i) (k : i ≤ 1000000) : small62 i = true := by
  simp only [small62, Bool.and_eq_true, decide_eq_true_eq]
  omega
theorem lt_ble {n m : Nat} (h : Nat.ble (n + 1) m = true) : n < m := Nat.le_of_ble_eq_true h
theorem le_ble {n m : Nat} (h : Nat.ble n m = true) : n ≤ m := Nat.le_of_ble_eq_true h
end Mx
set_option Elab.async false
set_option linter.all false
set_option maxRecDepth 100000
set_option maxHeartbeats 1000000
/-! Wr: data that repr shows; k the depth, w the weight -/
namespace Mx
open PySem L2
def Rp (k w : Nat) (d : D) : Prop := ∃ p, py d = some p ∧ p.showable = true ∧ p.hasDict = false ∧ p.depth ≤ k ∧ p.weight ≤ w ∧ p.leavesShort 13 = true
def RpL (k w : Nat) (ds : List D) : Prop := ∃ ps, pyL ds = some ps ∧ PyData.showableAll ps = true ∧ PyData.hasDictAll ps = false ∧ PyData.depthAll ps ≤ k ∧ PyData.weightAll ps ≤ w ∧ PyData.leavesShortAll 13 ps = true
theorem Rp.mono {k w k' w' : Nat} {d : D} (h : Rp k w d) (hk : k ≤ k') (hw : w ≤ w') : Rp k' w' d := by
  obtain ⟨p, h1, h2, h3, h4, h5, h6⟩ := h
  exact ⟨p, h1, h2, h3, by omega, by omega, h6⟩
theorem RpL.mono {k w k' w' : Nat} {ds : List D} (h : RpL k w ds) (hk : k ≤ k') (hw : w ≤ w') : RpL k' w' ds := by
  obtain ⟨p, h1, h2, h3, h4, h5, h6⟩ := h
  exact ⟨p, h1, h2, h3, by omega, by omega, h6⟩
theorem RpL.nil {k : Nat} : RpL k 0 [] := ⟨[], rfl, rfl, rfl, by simp [PyData.depthAll], by simp [PyData.weightAll], rfl⟩
theorem RpL.cons {k w w' : Nat} {d : D} {ds : List D} (h : Rp k w d) (h' : RpL k w' ds) : RpL k (w + 1 + w') (d :: ds) := by
  obtain ⟨p, h1, h2, h3, h4, h5, h6⟩ := h
  obtain ⟨ps, q1, q2, q3, q4, q5, q6⟩ := h'
  refine ⟨p :: ps, by simp [pyL, h1, q1], by simp [PyData.showableAll, h2, q2], by simp [PyData.hasDictAll, h3, q3], ?_, ?_, by simp [PyData.leavesShortAll, h6, q6]⟩
  · simp only [PyData.depthAll]; omega
  · simp only [PyData.weightAll]; omega
theorem RpL.map {α : Type} {k w : Nat} {c : α → D} {l : List α} (h : ∀ a ∈ l, Rp k w (c a)) : RpL k ((w + 1) * l.length) (l.map c) := by
  induction l with
  | nil => exact RpL.nil
  | cons a l ih =>
    have := RpL.cons (h a (List.mem_cons_self ..)) (ih fun x hx => h x (List.mem_cons_of_mem _ hx))
    rw [List.map_cons, List.length_cons, Nat.mul_succ]
    exact this.mono (Nat.le_refl _) (by omega)
theorem Rp.tup {k w : Nat} {ds : List D} (h : RpL k w ds) : Rp (k + 1) w (.tup ds) := by
  obtain ⟨ps, q1, q2, q3, q4, q5, q6⟩ := h
  exact ⟨.tuple ps, by simp [py, q1], by simpa [PyData.showable] using q2, by simpa [PyData.hasDict] using q3, by simp only [PyData.depth]; omega, by simpa only [PyData.weight] using q5, by simpa [PyData.leavesShort] using q6⟩
theorem Rp.ptp {k w : Nat} {ds : List D} (h : RpL k w ds) : Rp (k + 1) w (.ptp ds) := by
  obtain ⟨p, h1, h2⟩ := Rp.tup h
  exact ⟨p, by simpa [py] using h1, h2⟩
theorem Rp.lst {k w : Nat} {ds : List D} (h : RpL k w ds) : Rp (k + 1) w (.lst ds) := by
  obtain ⟨ps, q1, q2, q3, q4, q5, q6⟩ := h
  exact ⟨.list ps, by simp [py, q1], by simpa [PyData.showable] using q2, by simpa [PyData.hasDict] using q3, by simp only [PyData.depth]; omega, by simpa only [PyData.weight] using q5, by simpa [PyData.leavesShort] using q6⟩
theorem Rp.own {k w : Nat} {ds : List D} (h : RpL k w ds) : Rp (k + 1) w (.own ds) := by
  obtain ⟨p, h1, h2⟩ := Rp.lst h
  exact ⟨p, by simpa [py] using h1, h2⟩
theorem Rp.int {i : Int} (h : i.natAbs < 10 ^ 12) : Rp 0 40 (.int i) := by
  have l : i.natAbs ≠ 0 → i.natAbs.log2 < 40 := fun z => (Nat.log2_lt z).mpr (by omega)
  refine ⟨.int i, rfl, ?_, rfl, by simp [PyData.depth], ?_, ?_⟩
  · simp only [PyData.showable, decide_eq_true_eq]
    by_cases z : i.natAbs = 0
    · rw [z]; decide
    · have := l z; omega
  · simp only [PyData.weight]
    split
    · omega
    · rename_i z
      have := l (by simpa using z)
      omega
  · simp only [PyData.leavesShort, decide_eq_true_eq]
    exact PyData.shown_int_le h
theorem Rp.str {x : Str} {n : Nat} (h : PyData.strOk x = true) (hn : x.length ≤ n) : Rp 0 n (.str x) := by
  refine ⟨.str x, rfl, rfl, rfl, by simp [PyData.depth], (by simp only [PyData.weight]; exact hn), ?_⟩
  have := PyData.leavesShort_of_canLay0 13 (.str x) (by simpa [PyData.canLay0] using h) rfl
  exact this
theorem Rp.bl {b : Bool} : Rp 0 0 (.bl b) := ⟨.bool b, rfl, rfl, rfl, by simp [PyData.depth], by simp [PyData.weight], rfl⟩
theorem Rp.non : Rp 0 0 .non := ⟨.none, rfl, rfl, rfl, by simp [PyData.depth], by simp [PyData.weight], rfl⟩
theorem pow12 : (10 : Nat) ^ 12 = 1000000000000 := by decide
theorem repr_some {k w : Nat} {d : D} {p : PyData} (hp : py d = some p) (h : Rp k w d) (hs : isSq p = true) (hk : k ≤ 20) (hw : w ≤ 60000) : reprD d = some (.str p.shown) := by
  obtain ⟨q, h1, h2, h3, h4, h5, h6⟩ := h
  rw [hp] at h1
  cases h1
  have := PyData.shown_le 13 (by decide) p h6
  have hm : (13 + 2) * p.weight ≤ 15 * 60000 := Nat.mul_le_mul (by decide) (by omega)
  simp only [reprD, hp, Option.bind_some]
  rw [if_pos ⟨hs, h2, h3, by omega, by omega⟩]
/-- the shown text of a tuple; of a list, changing or not -/
theorem repr_tup {k w : Nat} {ds : List D} (h : RpL k w ds) (hk : k ≤ 19) (hw : w ≤ 60000) : ∃ s, reprD (.tup ds) = some (.str s) := by
  obtain ⟨p, h1, h2⟩ := Rp.tup h
  have hs : isSq p = true := by
    simp only [py, Option.map_eq_some_iff] at h1
    obtain ⟨ps, _, rfl⟩ := h1
    rfl
  exact ⟨_, repr_some h1 ⟨p, h1, h2⟩ hs (by omega) hw⟩
theorem repr_lst {k w : Nat} {ds : List D} (h : RpL k w ds) (hk : k ≤ 19) (hw : w ≤ 60000) : ∃ s, reprD (.lst ds) = some (.str s) ∧ reprD (.own ds) = some (.str s) := by
  obtain ⟨p, h1, h2⟩ := Rp.lst h
  have hs : isSq p = true := by
    simp only [py, Option.map_eq_some_iff] at h1
    obtain ⟨ps, _, rfl⟩ := h1
    rfl
  exact ⟨_, repr_some h1 ⟨p, h1, h2⟩ hs (by omega) hw, repr_some (by simpa [py] using h1) ⟨p, by simpa [py] using h1, h2⟩ hs (by omega) hw⟩
/-- the text tells of the data alone -/
theorem repr_py {d e : D} (h : py d = py e) : reprD d = reprD e := by simp only [reprD, h]
theorem repr_of {k w : Nat} {d : D} (h : Rp k w d) (hs : ∀ p, py d = some p → isSq p = true) (hk : k ≤ 20) (hw : w ≤ 60000) : ∃ s, reprD d = some (.str s) := by
  obtain ⟨p, h1, h2⟩ := h
  exact ⟨_, repr_some h1 ⟨p, h1, h2⟩ (hs p h1) hk hw⟩
theorem eq_same {s : Str} : eqD (.str s) (.str s) = some (.bl true) := by simp [eqD, eqvD]
theorem ne_same {s : Str} : neD (.str s) (.str s) = some (.bl false) := by simp [neD, eqvD]
end Mx
set_option Elab.async false
set_option linter.all false
set_option maxRecDepth 100000
set_option maxHeartbeats 1000000
namespace Lw
open PySem L2 Mx
/-! ### the plain law of diffs: what the mirrors compute -/
/-- a line: no line feed, not long -/
def okS (x : Str) : Prop := (10 : Nat) ∉ x.cps.toList ∧ x.length ≤ 10 ∧ PyData.strOk x = true
def TX (xs : List Str) : D := .lst (xs.map .str)
theorem isTp_t (xs : List D) : isTp (.tup xs) = true := rfl
theorem isTp_p (xs : List D) : isTp (.ptp xs) = true := rfl
theorem fz_p (xs : List D) : (D.ptp xs).fz = true := rfl
/-- a text: a list, or a tuple -/
def TV (t : Bool) (xs : List Str) : D := bif t then .ptp (xs.map .str) else .lst (xs.map .str)
theorem TV_t (xs : List Str) : TV true xs = .ptp (xs.map .str) := rfl
theorem TV_f (xs : List Str) : TV false xs = .lst (xs.map .str) := rfl
def okT (xs : List Str) : Prop := xs.length ≤ 60 ∧ ∀ x ∈ xs, okS x
def PR (p : Int × Int) : D := .tup [.int p.1, .int p.2]
def DF (ps : List (Int × Int)) : D := .ptp (ps.map PR)
theorem nl_in (x : Str) : ninD (.str "\n") (.str x) = some (.bl (!decide ((10 : Nat) ∈ x.cps.toList))) := rfl
theorem is_line_ok {x : Str} (h : okS x) : f_is_line [.str x] = .ok (.bl true) [.str x] := by
  simp [f_is_line, b_is_line, seqS, setS, set1, putV, bindS, bindR, ifS, retS, ret1, retN, dropS, asgS, asg1, par2S, par2, par3S, par3, skipS, opM, op2, unM, op1, re, varM, movM, vfzM, cstM, nilM, consM, tupM, lstM, items, vals, val, deref, boolM, asB, andB, orB, notB, andV, orV, notV, ifM, chainM, asI, fzM, fz1, fnM, fin, Mx.finish, fz_non, fz_bl, fz_int, fz_str, fz_tup, fz_ptp, fz_lst, fz_scr, fz_dct, fz_obj, fz_own, fz_odct, fz_oobj, D.frz, nameG, tupG, consG, nilG, frzS, yesB, there, modS, unpI, tupI, isD, pyT, isOne, Mx.askT, nl_in, h.1]
theorem is_integer_ok (i a b : Int) : f_is_integer [.int i, .int a, .int b] = .ok (.bl (decide (a ≤ i ∧ i ≤ b))) [.int i, .int a, .int b] := by
  by_cases h1 : a ≤ i <;> by_cases h2 : i ≤ b <;> simp [f_is_integer, b_is_integer, seqS, setS, set1, putV, bindS, bindR, ifS, retS, ret1, retN, dropS, asgS, asg1, par2S, par2, par3S, par3, skipS, opM, op2, unM, op1, re, varM, movM, vfzM, cstM, nilM, consM, tupM, lstM, items, vals, val, deref, boolM, asB, andB, orB, notB, andV, orV, notV, ifM, chainM, asI, fzM, fz1, fnM, fin, Mx.finish, fz_non, fz_bl, fz_int, fz_str, fz_tup, fz_ptp, fz_lst, fz_scr, fz_dct, fz_obj, fz_own, fz_odct, fz_oobj, D.frz, nameG, tupG, consG, nilG, frzS, yesB, there, modS, unpI, tupI, isD, pyT, isOne, Mx.askT, h1, h2]
theorem bls_rep (n : Nat) : bls (List.replicate n (.bl true)) = some (List.replicate n true) := by
  induction n with
  | zero => rfl
  | succ n ih => simp [List.replicate_succ, bls, ih]
theorem lstI_own {ds : List D} (h : fzL ds = true) : lstI (.own ds) = some ds := by simp [lstI, h]
theorem fzL_map {α : Type} {f : α → D} (h : ∀ x, (f x).fz = true) (l : List α) : fzL (l.map f) = true := by simp [fzL, h]
theorem allD_rep (n : Nat) : allD (.own (List.replicate n (.bl true))) = some (.bl true) := by
  have hz : fzL (List.replicate n (D.bl true)) = true := by simp [fzL, D.fz]
  simp [allD, lstI_own hz, bls_rep]
theorem fm_rep {α β : Type} (c : β) (l : List α) : l.filterMap (fun _ => some c) = List.replicate l.length c := by
  induction l with
  | nil => rfl
  | cons a l ih => simp [ih, List.replicate_succ]
theorem is_text_ok {a : Bool} {xs : List Str} (h : okT xs) : f_is_text [TV a xs] = .ok (.bl true) [TV a xs] := by
  have hl : lcL [1] (nameG 1) yesB (callM ⟨1, 1, [false], [0], []⟩ f_is_line (consM (varM 1) nilM)) (xs.map .str) [some (TV a xs), none] [] = .ok (.own (List.replicate xs.length (.bl true))) [some (TV a xs), none] := by
    rw [lcL_pure (by rfl) (fun _ => some (.bl true))]
    · rw [fm_rep]; simp
    · intro d hd
      obtain ⟨x, hx, rfl⟩ := List.mem_map.mp hd
      refine ⟨_, rfl, .inr ⟨.bl true, .bl true, [some (TV a xs), some (.str x)], [some (TV a xs), some (.str x)], rfl, rfl, ?_, rfl, rfl⟩⟩
      simp [seqS, setS, set1, putV, bindS, bindR, ifS, retS, ret1, retN, dropS, asgS, asg1, par2S, par2, par3S, par3, skipS, opM, op2, unM, op1, re, varM, movM, vfzM, cstM, nilM, consM, tupM, lstM, items, vals, val, deref, boolM, asB, andB, orB, notB, andV, orV, notV, ifM, chainM, asI, fzM, fz1, fnM, fin, Mx.finish, fz_non, fz_bl, fz_int, fz_str, fz_tup, fz_ptp, fz_lst, fz_scr, fz_dct, fz_obj, fz_own, fz_odct, fz_oobj, D.frz, nameG, tupG, consG, nilG, frzS, yesB, there, modS, unpI, tupI, callM, call1, take0, argK, grab, Mx.putB, Mx.pick, makeM, make1, methM, meth1, appN, starM, star1, is_line_ok (h.2 x hx)]
    · simp; have := h.1; omega
  have h60 : ((xs.length : Nat) : Int) ≤ 60 := by have := h.1; omega
  cases a <;> simp only [TV_t, TV_f] at hl ⊢ <;> simp [f_is_text, b_is_text, seqS, setS, set1, putV, bindS, bindR, ifS, retS, ret1, retN, dropS, asgS, asg1, par2S, par2, par3S, par3, skipS, opM, op2, unM, op1, re, varM, movM, vfzM, cstM, nilM, consM, tupM, lstM, items, vals, val, deref, boolM, asB, andB, orB, notB, andV, orV, notV, ifM, chainM, asI, fzM, fz1, fnM, fin, Mx.finish, fz_non, fz_bl, fz_int, fz_str, fz_tup, fz_ptp, fz_lst, fz_scr, fz_dct, fz_obj, fz_own, fz_odct, fz_oobj, D.frz, nameG, tupG, consG, nilG, frzS, yesB, there, modS, unpI, tupI, isD, pyT, isOne, Mx.askT, lenD, Mx.seqI, lstI, tupI, cmpD, h60, lcM, seqIt, seq1, seqD, killE, hl, allD_rep]
theorem check_text_ok {a : Bool} {xs : List Str} (h : okT xs) : f_check_text [TV a xs] = .ok .non [TV a xs] := by
  have e := is_text_ok (a := a) h
  cases a <;> simp only [TV_t, TV_f] at e ⊢ <;> simp [f_check_text, b_check_text, seqS, setS, set1, putV, bindS, bindR, ifS, retS, ret1, retN, dropS, asgS, asg1, par2S, par2, par3S, par3, skipS, opM, op2, unM, op1, re, varM, movM, vfzM, cstM, nilM, consM, tupM, lstM, items, vals, val, deref, boolM, asB, andB, orB, notB, andV, orV, notV, ifM, chainM, asI, fzM, fz1, fnM, fin, Mx.finish, fz_non, fz_bl, fz_int, fz_str, fz_tup, fz_ptp, fz_lst, fz_scr, fz_dct, fz_obj, fz_own, fz_odct, fz_oobj, D.frz, nameG, tupG, consG, nilG, frzS, yesB, there, modS, unpI, tupI, callM, call1, take0, argK, grab, Mx.putB, Mx.pick, makeM, make1, methM, meth1, appN, starM, star1, e]
theorem check_texts_ok {a b : Bool} {xs ys : List Str} (h : okT xs) (k : okT ys) : f_check_texts [.tup [TV a xs, TV b ys]] = .ok .non [.tup [TV a xs, TV b ys]] := by
  have e := check_text_ok (a := a) h
  have e2 := check_text_ok (a := b) k
  cases a <;> cases b <;> simp only [TV_t, TV_f] at e e2 ⊢ <;> simp [f_check_texts, b_check_texts, seqS, setS, set1, putV, bindS, bindR, ifS, retS, ret1, retN, dropS, asgS, asg1, par2S, par2, par3S, par3, skipS, opM, op2, unM, op1, re, varM, movM, vfzM, cstM, nilM, consM, tupM, lstM, items, vals, val, deref, boolM, asB, andB, orB, notB, andV, orV, notV, ifM, chainM, asI, fzM, fz1, fnM, fin, Mx.finish, fz_non, fz_bl, fz_int, fz_str, fz_tup, fz_ptp, fz_lst, fz_scr, fz_dct, fz_obj, fz_own, fz_odct, fz_oobj, D.frz, nameG, tupG, consG, nilG, frzS, yesB, there, modS, unpI, tupI, callM, call1, take0, argK, grab, Mx.putB, Mx.pick, makeM, make1, methM, meth1, appN, starM, star1, forS, forL, seqIt, seq1, seqD, e, e2]
theorem sh_int (i : Int) : SeqAt.shaped (.int i) = true := by simp [SeqAt.shaped, PyData.canLay0, PyData.depth]
theorem sh_str {x : Str} (h : PyData.strOk x = true) : SeqAt.shaped (.str x) = true := by simp [SeqAt.shaped, PyData.canLay0, PyData.depth, h]
theorem eq_int (i j : Int) : eqD (.int i) (.int j) = some (.bl (decide (i = j))) := by
  simp [eqD, eqvD, py, sh_int, PyData.eqv]
  rfl
theorem ne_int (i j : Int) : neD (.int i) (.int j) = some (.bl (decide (i ≠ j))) := by
  by_cases h : i = j <;> simp [neD, eqvD, py, sh_int, PyData.eqv, h]
theorem eq_str {i j : Str} (hi : PyData.strOk i = true) (hj : PyData.strOk j = true) : eqD (.str i) (.str j) = some (.bl (decide (i = j))) := by
  by_cases h : i = j <;> simp [eqD, eqvD, py, sh_str hi, sh_str hj, PyData.eqv, h]
theorem ne_str {i j : Str} (hi : PyData.strOk i = true) (hj : PyData.strOk j = true) : neD (.str i) (.str j) = some (.bl (decide (i ≠ j))) := by
  by_cases h : i = j <;> simp [neD, eqvD, py, sh_str hi, sh_str hj, PyData.eqv, h]
/-- the k-th line, from 1 on -/
def lineAt (xs : List Str) (i : Int) : Option Str := xs[(i - 1).toNat]?
theorem atI_line {xs : List Str} {i : Int} (h : 1 ≤ i) (k : i ≤ xs.length) : L2.atI (xs.map D.str) (i - 1) = (lineAt xs i).map D.str := by
  simp only [L2.atI, L2.ixN, List.length_map, lineAt]
  rw [if_pos (by omega), if_pos (by omega)]
  simp
theorem lineAt_some {xs : List Str} {i : Int} (h : 1 ≤ i) (k : i ≤ xs.length) : ∃ x, lineAt xs i = some x ∧ x ∈ xs := by
  have : (i - 1).toNat < xs.length := by omega
  exact ⟨xs[(i - 1).toNat], List.getElem?_eq_getElem this, List.getElem_mem this⟩
/-- a pair of these texts -/
def okP (old new : List Str) (p : Int × Int) : Prop := 1 ≤ p.1 ∧ p.1 ≤ old.length ∧ 1 ≤ p.2 ∧ p.2 ≤ new.length ∧ lineAt old p.1 = lineAt new p.2
def okD (old new : List Str) (ps : List (Int × Int)) : Prop := (∀ p ∈ ps, okP old new p) ∧ ps.Pairwise fun p q => p.1 < q.1 ∧ p.2 < q.2
theorem is_pair_ok {a b : Bool} {old new : List Str} {p : Int × Int} (ho : okT old) (h : okP old new p) : f_is_pair [TV a old, TV b new, PR p] = .ok (.bl true) [TV a old, TV b new, PR p] := by
  obtain ⟨h1, h2, h3, h4, h5⟩ := h
  obtain ⟨x, hx, hm⟩ := lineAt_some h1 h2
  have ok := (ho.2 x hm).2.2
  have a1 := atI_line h1 h2
  have a2 := atI_line h3 h4
  rw [hx] at a1
  rw [← h5, hx] at a2
  have i1 := is_integer_ok p.1 1 old.length
  have i2 := is_integer_ok p.2 1 new.length
  have b1 : (1 ≤ p.1 ∧ p.1 ≤ (old.length : Int)) = True := by simp [h1, h2]
  have b2 : (1 ≤ p.2 ∧ p.2 ≤ (new.length : Int)) = True := by simp [h3, h4]
  simp only [b1, decide_true] at i1
  simp only [b2, decide_true] at i2
  have q0 : L2.atI [D.int p.1, D.int p.2] 0 = some (.int p.1) := rfl
  have q1 : L2.atI [D.int p.1, D.int p.2] 1 = some (.int p.2) := rfl
  have e1 : Mx.seqI (.tup [D.int p.1, D.int p.2]) = some [D.int p.1, D.int p.2] := rfl
  cases a <;> cases b <;> simp only [TV_t, TV_f] <;> simp [f_is_pair, b_is_pair, PR, seqS, setS, set1, putV, bindS, bindR, ifS, retS, ret1, retN, dropS, asgS, asg1, par2S, par2, par3S, par3, skipS, opM, op2, unM, op1, re, varM, movM, vfzM, cstM, nilM, consM, tupM, lstM, items, vals, val, deref, boolM, asB, andB, orB, notB, andV, orV, notV, ifM, chainM, asI, fzM, fz1, fnM, fin, Mx.finish, fz_non, fz_bl, fz_int, fz_str, fz_tup, fz_ptp, fz_lst, fz_scr, fz_dct, fz_obj, fz_own, fz_odct, fz_oobj, D.frz, nameG, tupG, consG, nilG, frzS, yesB, there, modS, unpI, tupI, callM, call1, take0, argK, grab, Mx.putB, Mx.pick, makeM, make1, methM, meth1, appN, starM, star1, isD, pyT, isOne, Mx.askT, lenD, Mx.seqI, lstI, tupI, eq_int, ne_int, eq_str ok ok, ixD, q0, q1, i1, i2, subD, a1, a2]
theorem cut_one {α : Type} (xs : List α) : cutL xs (some 1) none = xs.drop 1 := by
  cases xs with
  | nil => rfl
  | cons x xs =>
    simp [cutL, HT.sIx]
theorem ix_pr0 (p : Int × Int) : ixD (PR p) (.int 0) = some (.int p.1) := rfl
theorem ix_pr1 (p : Int × Int) : ixD (PR p) (.int 1) = some (.int p.2) := rfl
theorem zip_next {ps : List (Int × Int)} {d : D} (h : d ∈ zipD (ps.map PR) ((ps.map PR).drop 1)) : ∃ (i : Nat) (p q : Int × Int), ps[i]? = some p ∧ ps[i + 1]? = some q ∧ d = .tup [PR p, PR q] := by
  obtain ⟨i, hi⟩ := List.getElem?_of_mem h
  obtain ⟨x, y, h1, h2, rfl⟩ := zipD_get hi
  rw [List.getElem?_map] at h1
  rw [List.getElem?_drop, List.getElem?_map] at h2
  obtain ⟨p, hp, rfl⟩ := Option.map_eq_some_iff.mp h1
  obtain ⟨q, hq, rfl⟩ := Option.map_eq_some_iff.mp h2
  exact ⟨i, p, q, hp, by rw [Nat.add_comm]; exact hq, rfl⟩
theorem okD_len {old new : List Str} {ps : List (Int × Int)} (h : okD old new ps) : ps.length ≤ old.length := by
  have go : ∀ (ps : List (Int × Int)) (lo : Int), (∀ p ∈ ps, lo < p.1 ∧ p.1 ≤ old.length) → ps.Pairwise (fun p q => p.1 < q.1 ∧ p.2 < q.2) → (ps.length : Int) ≤ old.length - lo ∨ ps = [] := by
    intro ps
    induction ps with
    | nil => intro lo _ _; exact .inr rfl
    | cons p ps ih =>
      intro lo h1 h2
      left
      have hp := h1 p (List.mem_cons_self ..)
      rcases ih p.1 (fun q hq => ⟨((List.pairwise_cons.mp h2).1 q hq).1, (h1 q (List.mem_cons_of_mem _ hq)).2⟩) (List.pairwise_cons.mp h2).2 with z | z
      · simp only [List.length_cons]; omega
      · subst z; simp; omega
  rcases go ps 0 (fun p hp => ⟨by have := (h.1 p hp).1; omega, (h.1 p hp).2.1⟩) h.2 with z | z
  · omega
  · subst z; simp
theorem has_form_ok {a b : Bool} {old new : List Str} {ps : List (Int × Int)} (ho : okT old) (h : okD old new ps) : f_has_form [TV a old, TV b new, DF ps] = .ok (.bl true) [TV a old, TV b new, DF ps] := by
  have hlen := okD_len h
  have h60 := ho.1
  have l1 : lcL [5] (nameG 5) yesB (callM ⟨3, 3, [false, false, false], [0, 1, 2], []⟩ f_is_pair (consM (varM 0) (consM (varM 1) (consM (varM 5) nilM)))) (ps.map PR) [some (TV a old), some (TV b new), some (DF ps), none, none, none] [] = .ok (.own (List.replicate ps.length (.bl true))) [some (TV a old), some (TV b new), some (DF ps), none, none, none] := by
    rw [lcL_pure (by rfl) (fun _ => some (.bl true))]
    · rw [fm_rep]; simp
    · intro d hd
      obtain ⟨p, hp, rfl⟩ := List.mem_map.mp hd
      have e := is_pair_ok (a := a) (b := b) ho (h.1 p hp)
      refine ⟨_, rfl, .inr ⟨.bl true, .bl true, _, [some (TV a old), some (TV b new), some (DF ps), none, none, some (PR p)], rfl, rfl, ?_, rfl, rfl⟩⟩
      cases a <;> cases b <;> simp only [TV_t, TV_f] at e ⊢ <;> simp [PR, DF] at e <;> simp [seqS, setS, set1, putV, bindS, bindR, ifS, retS, ret1, retN, dropS, asgS, asg1, par2S, par2, par3S, par3, skipS, opM, op2, unM, op1, re, varM, movM, vfzM, cstM, nilM, consM, tupM, lstM, items, vals, val, deref, boolM, asB, andB, orB, notB, andV, orV, notV, ifM, chainM, asI, fzM, fz1, fnM, fin, Mx.finish, fz_non, fz_bl, fz_int, fz_str, fz_tup, fz_ptp, fz_lst, fz_scr, fz_dct, fz_obj, fz_own, fz_odct, fz_oobj, D.frz, nameG, tupG, consG, nilG, frzS, yesB, there, modS, unpI, tupI, callM, call1, take0, argK, grab, Mx.putB, Mx.pick, makeM, make1, methM, meth1, appN, starM, star1, PR, DF, e]
    · simp; omega
  have l2 : lcL [3, 4] (tupG 2 (consG (nameG 3) (consG (nameG 4) nilG))) yesB (andV (opM ltD (opM ixD (varM 3) (cstM (.int 0))) (opM ixD (varM 4) (cstM (.int 0)))) (opM ltD (opM ixD (varM 3) (cstM (.int 1))) (opM ixD (varM 4) (cstM (.int 1))))) (zipD (ps.map PR) ((ps.map PR).drop 1)) [some (TV a old), some (TV b new), some (DF ps), none, none, none] [] = .ok (.own (List.replicate (zipD (ps.map PR) ((ps.map PR).drop 1)).length (.bl true))) [some (TV a old), some (TV b new), some (DF ps), none, none, none] := by
    rw [lcL_pure (by rfl) (fun _ => some (.bl true))]
    · rw [fm_rep]; simp
    · intro d hd
      obtain ⟨i, p, q, hp, hq, rfl⟩ := zip_next hd
      have hlt : p.1 < q.1 ∧ p.2 < q.2 := by
        obtain ⟨a1, a2⟩ := List.getElem?_eq_some_iff.mp hp
        obtain ⟨b1, b2⟩ := List.getElem?_eq_some_iff.mp hq
        have := List.pairwise_iff_getElem.mp h.2 i (i + 1) a1 b1 (by omega)
        rw [a2, b2] at this
        exact this
      refine ⟨_, rfl, .inr ⟨.bl true, .bl true, _, [some (TV a old), some (TV b new), some (DF ps), some (PR p), some (PR q), none], rfl, rfl, ?_, rfl, rfl⟩⟩
      have d1 : ltD (.int p.1) (.int q.1) = some (.bl true) := by simp [ltD, hlt.1]
      have d2 : ltD (.int p.2) (.int q.2) = some (.bl true) := by simp [ltD, hlt.2]
      have i1 : ixD (PR p) (.int 0) = some (.int p.1) := rfl
      simp [seqS, setS, set1, putV, bindS, bindR, ifS, retS, ret1, retN, dropS, asgS, asg1, par2S, par2, par3S, par3, skipS, opM, op2, unM, op1, re, varM, movM, vfzM, cstM, nilM, consM, tupM, lstM, items, vals, val, deref, boolM, asB, andB, orB, notB, andV, orV, notV, ifM, chainM, asI, fzM, fz1, fnM, fin, Mx.finish, fz_non, fz_bl, fz_int, fz_str, fz_tup, fz_ptp, fz_lst, fz_scr, fz_dct, fz_obj, fz_own, fz_odct, fz_oobj, D.frz, nameG, tupG, consG, nilG, frzS, yesB, there, modS, unpI, tupI, ix_pr0, ix_pr1, d1, d2]
    · rw [zipD_len]; simp; omega
  have c1 : cutD (DF ps) (some 1) none = some (.tup ((ps.map PR).drop 1)) := by
    simp [cutD, DF, lstI, tupI, cut_one]
  simp only [DF] at l1 l2 c1 ⊢
  simp only [List.drop_one] at l2
  cases a <;> cases b <;> simp only [TV_t, TV_f] at l1 l2 ⊢ <;> simp [f_has_form, b_has_form, seqS, setS, set1, putV, bindS, bindR, ifS, retS, ret1, retN, dropS, asgS, asg1, par2S, par2, par3S, par3, skipS, opM, op2, unM, op1, re, varM, movM, vfzM, cstM, nilM, consM, tupM, lstM, items, vals, val, deref, boolM, asB, andB, orB, notB, andV, orV, notV, ifM, chainM, asI, fzM, fz1, fnM, fin, Mx.finish, fz_non, fz_bl, fz_int, fz_str, fz_tup, fz_ptp, fz_lst, fz_scr, fz_dct, fz_obj, fz_own, fz_odct, fz_oobj, D.frz, nameG, tupG, consG, nilG, frzS, yesB, there, modS, unpI, tupI, isD, pyT, isOne, Mx.askT, lcM, seqIt, seq1, seqD, killE, l1, allD_rep, zipI, zip1, slM, someP, noP, cut1, c1, isTp_t, isTp_p] <;> simp [l2, allD_rep, seqS, setS, set1, putV, bindS, bindR, ifS, retS, ret1, retN, dropS, asgS, asg1, par2S, par2, par3S, par3, skipS, opM, op2, unM, op1, re, varM, movM, vfzM, cstM, nilM, consM, tupM, lstM, items, vals, val, deref, boolM, asB, andB, orB, notB, andV, orV, notV, ifM, chainM, asI, fzM, fz1, fnM, fin, Mx.finish, fz_non, fz_bl, fz_int, fz_str, fz_tup, fz_ptp, fz_lst, fz_scr, fz_dct, fz_obj, fz_own, fz_odct, fz_oobj, D.frz, nameG, tupG, consG, nilG, frzS, yesB, there, modS, unpI, tupI]
theorem is_diff_ok {a b : Bool} {old new : List Str} {ps : List (Int × Int)} (ho : okT old) (hn : okT new) (h : okD old new ps) : f_is_diff [TV a old, TV b new, DF ps] = .ok (.bl true) [TV a old, TV b new, DF ps] := by
  have e1 := check_texts_ok (a := a) (b := b) ho hn
  have e2 := has_form_ok (a := a) (b := b) ho h
  simp only [DF] at e2 ⊢
  cases a <;> cases b <;> simp only [TV_t, TV_f] at e1 e2 ⊢ <;> simp [f_is_diff, b_is_diff, seqS, setS, set1, putV, bindS, bindR, ifS, retS, ret1, retN, dropS, asgS, asg1, par2S, par2, par3S, par3, skipS, opM, op2, unM, op1, re, varM, movM, vfzM, cstM, nilM, consM, tupM, lstM, items, vals, val, deref, boolM, asB, andB, orB, notB, andV, orV, notV, ifM, chainM, asI, fzM, fz1, fnM, fin, Mx.finish, fz_non, fz_bl, fz_int, fz_str, fz_tup, fz_ptp, fz_lst, fz_scr, fz_dct, fz_obj, fz_own, fz_odct, fz_oobj, D.frz, nameG, tupG, consG, nilG, frzS, yesB, there, modS, unpI, tupI, callM, call1, take0, argK, grab, Mx.putB, Mx.pick, makeM, make1, methM, meth1, appN, starM, star1, e1, e2]
theorem check_diff_ok {a b : Bool} {old new : List Str} {ps : List (Int × Int)} (ho : okT old) (hn : okT new) (h : okD old new ps) : f_check_diff [TV a old, TV b new, DF ps] = .ok .non [TV a old, TV b new, DF ps] := by
  have e2 := is_diff_ok (a := a) (b := b) ho hn h
  simp only [DF] at e2 ⊢
  cases a <;> cases b <;> simp only [TV_t, TV_f] at e2 ⊢ <;> simp [f_check_diff, b_check_diff, seqS, setS, set1, putV, bindS, bindR, ifS, retS, ret1, retN, dropS, asgS, asg1, par2S, par2, par3S, par3, skipS, opM, op2, unM, op1, re, varM, movM, vfzM, cstM, nilM, consM, tupM, lstM, items, vals, val, deref, boolM, asB, andB, orB, notB, andV, orV, notV, ifM, chainM, asI, fzM, fz1, fnM, fin, Mx.finish, fz_non, fz_bl, fz_int, fz_str, fz_tup, fz_ptp, fz_lst, fz_scr, fz_dct, fz_obj, fz_own, fz_odct, fz_oobj, D.frz, nameG, tupG, consG, nilG, frzS, yesB, there, modS, unpI, tupI, callM, call1, take0, argK, grab, Mx.putB, Mx.pick, makeM, make1, methM, meth1, appN, starM, star1, e2]
theorem fz_prs (h : Int × Int → Int × Int) (l : List (Int × Int)) : fzL (l.map fun p => PR (h p)) = true := fzL_map (fun _ => rfl) l
def IN (i : Int) : D := .int i
theorem kept_lines_ok {a b : Bool} {old new : List Str} {ps : List (Int × Int)} (ho : okT old) (hn : okT new) (h : okD old new ps) : f_kept_lines [TV a old, TV b new, DF ps] = .ok (.own ((ps.map (·.1)).map IN)) [TV a old, TV b new, DF ps] := by
  have e2 := check_diff_ok (a := a) (b := b) ho hn h
  have l1 : lcL [3, 4] (tupG 2 (consG (nameG 3) (consG (nameG 4) nilG))) yesB (varM 3) (ps.map PR) [some (TV a old), some (TV b new), some (DF ps), none, none] [] = .ok (.own (ps.map fun p => IN p.1)) [some (TV a old), some (TV b new), some (DF ps), none, none] :=
    lcL_all rfl PR _ ps (fun p hp => ⟨_, .rf 3, [some (TV a old), some (TV b new), some (DF ps), some (.int p.1), some (.int p.2)], rfl, rfl, rfl, rfl⟩) (by have := okD_len h; have := ho.1; omega)
  simp only [DF] at e2 l1 ⊢
  cases a <;> cases b <;> simp only [TV_t, TV_f] at e2 l1 ⊢ <;> simp [f_kept_lines, b_kept_lines, seqS, setS, set1, putV, bindS, bindR, ifS, retS, ret1, retN, dropS, asgS, asg1, par2S, par2, par3S, par3, skipS, opM, op2, unM, op1, re, varM, movM, vfzM, cstM, nilM, consM, tupM, lstM, items, vals, val, deref, boolM, asB, andB, orB, notB, andV, orV, notV, ifM, chainM, asI, fzM, fz1, fnM, fin, Mx.finish, fz_non, fz_bl, fz_int, fz_str, fz_tup, fz_ptp, fz_lst, fz_scr, fz_dct, fz_obj, fz_own, fz_odct, fz_oobj, D.frz, nameG, tupG, consG, nilG, frzS, yesB, there, modS, unpI, tupI, callM, call1, take0, argK, grab, Mx.putB, Mx.pick, makeM, make1, methM, meth1, appN, starM, star1, e2, lcM, seqIt, seq1, seqD, killE, l1, Function.comp_def]
theorem eqV_int (i j : Int) : L2.eqV (.int i) (.int j) = decide (i = j) := by
  by_cases h : i = j <;> simp [L2.eqV, h]
theorem flatL_ints (l : List Int) : flatL (l.map IN) = some (l.map V.int) := by
  induction l with
  | nil => rfl
  | cons a l ih => simp [flatL, flatO, IN, ih] <;> exact ih
theorem any_int (i : Int) (l : List Int) : L2.inV (.int i) (l.map V.int) = decide (i ∈ l) := by
  simp only [L2.inV, List.any_map]
  induction l with
  | nil => simp
  | cons a l ih =>
    rw [List.any_cons, ih]
    have e : ((fun y => L2.eqV y (V.int i)) ∘ V.int) a = decide (a = i) := eqV_int a i
    rw [e]
    by_cases h : a = i
    · simp [h]
    · have : i ≠ a := fun z => h z.symm
      simp [h, this]
theorem nin_ints (i : Int) (l : List Int) : ninD (.int i) (.lst (l.map IN)) = some (.bl (!decide (i ∈ l))) := by
  simp [ninD, inB, flatO, Mx.seqI, lstI, flatL_ints, any_int]
/-- 1 .. n without is -/
def without (n : Nat) (is : List Int) : List Int := ((List.range n).map fun k : Nat => (1 + (k : Int))).filter fun i => !decide (i ∈ is)
theorem range_one (n : Nat) : rangeD 1 n = ((List.range n).map fun k : Nat => (1 + (k : Int))).map IN := by simp [rangeD, IN, Function.comp_def]
theorem small_one : small62 1 = true := by decide
theorem small_len {n : Nat} (h : n ≤ 60) : small62 ((n : Int) + 1) = true := by
  simp only [small62, Bool.and_eq_true, decide_eq_true_eq]
  omega
theorem fz_ints (l : List Int) : frzL (l.map IN) = l.map IN := by rw [frzL_eq, List.map_map]; rfl
theorem lc_without (is : List Int) (n : Nat) (hn : n ≤ 60) (a b c : Option D) : lcL [4] (nameG 4) (boolM (opM ninD (varM 4) (varM 3))) (varM 4) (((List.range n).map fun k : Nat => (1 + (k : Int))).map IN) [a, b, c, some (.lst (is.map IN)), none] [] = .ok (.own ((without n is).map IN)) [a, b, c, some (.lst (is.map IN)), none] := by
  have z := lcL_map (vs := [4]) (g := nameG 4) (t := boolM (opM ninD (varM 4) (varM 3))) (m := varM 4) (e0 := [a, b, c, some (.lst (is.map IN)), none]) rfl IN IN (fun i => !decide (i ∈ is)) ((List.range n).map fun k : Nat => (1 + (k : Int))) [] (fun i hi => ?_) (by simp; omega)
  · simpa [without] using z
  · refine ⟨_, [a, b, c, some (.lst (is.map IN)), some (IN i)], rfl, ?_, ?_⟩
    · have := nin_ints i is
      simp only [IN] at this ⊢
      simp [seqS, setS, set1, putV, bindS, bindR, ifS, retS, ret1, retN, dropS, asgS, asg1, par2S, par2, par3S, par3, skipS, opM, op2, unM, op1, re, varM, movM, vfzM, cstM, nilM, consM, tupM, lstM, items, vals, val, deref, boolM, asB, andB, orB, notB, andV, orV, notV, ifM, chainM, asI, fzM, fz1, fnM, fin, Mx.finish, fz_non, fz_bl, fz_int, fz_str, fz_tup, fz_ptp, fz_lst, fz_scr, fz_dct, fz_obj, fz_own, fz_odct, fz_oobj, D.frz, nameG, tupG, consG, nilG, frzS, yesB, there, modS, unpI, tupI, this]
    · cases hb : (!decide (i ∈ is)) with
      | false => exact .inl ⟨rfl, rfl⟩
      | true => exact .inr ⟨rfl, .rf 4, _, rfl, rfl, rfl⟩
theorem range_oneN (n : Nat) : rangeD 1 (((n : Int) + 1 - 1).toNat) = ((List.range n).map fun k : Nat => (1 + (k : Int))).map IN := by
  rw [show ((n : Int) + 1 - 1).toNat = n by omega, range_one]
end Lw
set_option Elab.async false
set_option linter.all false
set_option maxRecDepth 100000
set_option maxHeartbeats 1000000
namespace Lw
open PySem L2 Mx
/-! Steps: a mirror run by parts, each part a goal of its own (one big simp makes terms that the kernel chokes on) -/
theorem fn_rt {k : Nat} {ro : List Bool} {b : SM} {ds ds' : List D} {env e : Mx.Env} {d : D} (he : ds.map some ++ List.replicate k none = env) (hb : b env = .rt d e) (hf : fin ro ds d e = .ok d ds') : fnM k ro b ds = .ok d ds' := by
  simp only [fnM, he, hb, hf]
theorem fn_nx {k : Nat} {ro : List Bool} {b : SM} {ds ds' : List D} {env e : Mx.Env} (he : ds.map some ++ List.replicate k none = env) (hb : b env = .nx e) (hf : fin ro ds .non e = .ok .non ds') : fnM k ro b ds = .ok .non ds' := by
  simp only [fnM, he, hb, hf]
theorem seq_nx {a b : SM} {env e : Mx.Env} {r : Out} (h1 : a env = .nx e) (h2 : b e = r) : seqS a b env = r := by
  simp only [seqS, h1, h2]
theorem seq_rt {a b : SM} {env e : Mx.Env} {d : D} (h1 : a env = .rt d e) : seqS a b env = .rt d e := by
  simp only [seqS, h1]
theorem if_tt {t : BM} {a b : SM} {env e : Mx.Env} {r : Out} (h1 : t env = .ok true e) (h2 : a e = r) : ifS t a b env = r := by
  simp only [ifS, h1, bindS, h2]
theorem if_ff {t : BM} {a b : SM} {env e : Mx.Env} {r : Out} (h1 : t env = .ok false e) (h2 : b e = r) : ifS t a b env = r := by
  simp only [ifS, h1, bindS, h2]
theorem ret_ok {m : EM} {env e : Mx.Env} {x d : D} (h1 : m env = .ok x e) (h2 : putV e x = some d) : retS m env = .rt d e := by
  simp only [retS, h1, bindS, ret1, h2]
theorem set_ok {i : Nat} {m : EM} {env e e' : Mx.Env} {x d : D} (h1 : m env = .ok x e) (h2 : putV e x = some d) (hi : i < e.length) (he : e.set i (some d) = e') : setS i m env = .nx e' := by
  simp only [setS, h1, bindS, set1, h2, hi, if_true, he]
theorem drop_ok {m : EM} {env e : Mx.Env} {x : D} (h1 : m env = .ok x e) : dropS m env = .nx e := by
  simp only [dropS, h1, bindS]
theorem fz_ok {m : EM} {env e : Mx.Env} {x d : D} (h1 : m env = .ok x e) (h2 : fz1 x e = .ok d e) : fzM m env = .ok d e := by
  simp only [fzM, h1, bindR, h2]
theorem call_ok {g : Sg} {f : FM} {a : AM} {env e e2 e3 : Mx.Env} {ts ds ds' : List D} {bs : List Ar} {r : D} (ha : a env = .ok ts e) (hp : take0 g ts e = some (bs, ds, e2)) (hf : f ds = .ok r ds') (hb : Mx.putB bs ds' e2 = some e3) : callM g f a env = .ok r e3 := by
  simp only [callM, ha, bindR, call1, hp, hf, hb]
theorem lc_ok {n : Nat} {vs : List Nat} {im : IM} {g : GM} {t : BM} {m : EM} {env e e0 : Mx.Env} {ds : List D} {r : Re D} (h1 : im env = .ok ds e) (hn : e.length = n) (hk : killE e vs = e0) (hl : lcL vs g t m ds e0 [] = r) : lcM n vs im g t m env = r := by
  simp only [lcM, h1, bindR, hn, if_true, hk, hl]
theorem cons_ok {a : EM} {b : AM} {env e e2 : Mx.Env} {x : D} {xs : List D} (h1 : a env = .ok x e) (h2 : b e = .ok xs e2) : consM a b env = .ok (x :: xs) e2 := by
  simp only [consM, h1, bindR, h2]
theorem op_ok {f : D → D → Option D} {a b : EM} {env e e2 : Mx.Env} {x y x' y' r : D} (h1 : a env = .ok x e) (h2 : b e = .ok y e2) (h3 : deref e2 x = some x') (h4 : deref e2 y = some y') (h5 : f x' y' = some r) : opM f a b env = .ok r e2 := by
  simp only [opM, h1, bindR, h2, op2, h3, h4, h5, re]
theorem un_ok {f : D → Option D} {a : EM} {env e : Mx.Env} {x x' r : D} (h1 : a env = .ok x e) (h3 : deref e x = some x') (h5 : f x' = some r) : unM f a env = .ok r e := by
  simp only [unM, h1, bindR, op1, h3, h5, re]
end Lw
set_option Elab.async false
set_option linter.all false
set_option maxRecDepth 100000
set_option maxHeartbeats 1000000
namespace Lw
open PySem L2 Mx
theorem fz_TX (l : List Str) : (TX l).fz = true := by simp only [TX, D.fz, fzL_map (f := D.str) (fun _ => rfl) l]
theorem fz_TV (t : Bool) (l : List Str) : (TV t l).fz = true := by cases t <;> rfl
theorem fz_DF (l : List (Int × Int)) : (DF l).fz = true := by simp only [DF, D.fz, fzL_map (f := PR) (fun _ => rfl) l]
theorem la_TX (l : List Str) : lenD (TX l) = some (.int l.length) := by simp [lenD, TX, Mx.seqI, lstI]
theorem la_TV (t : Bool) (l : List Str) : lenD (TV t l) = some (.int l.length) := by cases t <;> simp [lenD, TV_t, TV_f, Mx.seqI, lstI, tupI]
theorem fz_ownI (l : List Int) : fz1 (.own (l.map IN)) e = .ok (.lst (l.map IN)) e := by simp [fz1, val, D.frz, fz_ints]
theorem rng_from1 {e : Mx.Env} {a : EM} {A : D} {n : Nat} (ha : a e = .ok A e) (hd : deref e A = some A') (la : lenD A' = some (.int n)) (h : n ≤ 60) : rngI (lenA 2 (consM (cstM (.int 1)) (consM (opM addD (unM lenD a) (cstM (.int 1))) nilM))) e = .ok (((List.range n).map fun k : Nat => (1 + (k : Int))).map IN) e := by
  have s1 := small_one
  have sl := small_len h
  have hr := range_oneN n
  generalize (((List.range n).map fun k : Nat => (1 + (k : Int))).map IN) = X at *
  have h1 : unM lenD a e = .ok (.int n) e := un_ok ha hd la
  have h2 : opM addD (unM lenD a) (cstM (.int 1)) e = .ok (.int ((n : Int) + 1)) e := op_ok h1 rfl rfl rfl rfl
  have h3 : lenA 2 (consM (cstM (.int 1)) (consM (opM addD (unM lenD a) (cstM (.int 1))) nilM)) e = .ok [.int 1, .int ((n : Int) + 1)] e := by
    simp only [lenA, bindR, consM, cstM, nilM, h2, List.length_cons, List.length_nil, if_true]
  simp only [rngI, h3, bindR, rng1, deref, s1, sl, Bool.and_self, if_true, hr]
theorem gone_lines_ok {ta tb : Bool} {old new : List Str} {ps : List (Int × Int)} (ho : okT old) (hn : okT new) (h : okD old new ps) : f_gone_lines [TV ta old, TV tb new, DF ps] = .ok (.own ((without old.length (ps.map (·.1))).map IN)) [TV ta old, TV tb new, DF ps] := by
  have e2 := kept_lines_ok (a := ta) (b := tb) ho hn h
  generalize hq : ps.map (·.1) = is at e2 ⊢
  have l1 := lc_without is old.length ho.1 (some (TV ta old)) (some (TV tb new)) (some (DF ps))
  have hr := range_one old.length
  have sl := small_len ho.1
  have s1 := small_one
  have la := la_TV ta old
  have fA := fz_TV ta old
  have fB := fz_TV tb new
  have fC := fz_DF ps
  have fI : (D.lst (is.map IN)).fz = true := by simp only [D.fz, fzL_map (f := IN) (fun _ => rfl) is]
  generalize TV ta old = A at *
  generalize TV tb new = B at *
  generalize DF ps = C at *
  simp only [f_gone_lines, b_gone_lines]
  generalize f_kept_lines = F at *
  have R1 : setS 3 (fzM (callM ⟨3, 3, [false, false, false], [0, 1, 2], []⟩ F (consM (varM 0) (consM (varM 1) (consM (varM 2) nilM))))) [some A, some B, some C, none, none] = .nx [some A, some B, some C, some (D.lst (is.map IN)), none] := by
    refine set_ok (d := .lst (is.map IN)) (fz_ok (call_ok (bs := [.v A, .v B, .v C]) (ds := [A, B, C]) (e2 := [some A, some B, some C, none, none]) rfl ?_ e2 rfl) (fz_ownI _)) rfl (by simp) rfl
    simp [take0, seqS, setS, set1, putV, bindS, bindR, ifS, retS, ret1, retN, dropS, asgS, asg1, par2S, par2, par3S, par3, skipS, opM, op2, unM, op1, re, varM, movM, vfzM, cstM, nilM, consM, tupM, lstM, items, vals, val, deref, boolM, asB, andB, orB, notB, andV, orV, notV, ifM, chainM, asI, fzM, fz1, fnM, fin, Mx.finish, fz_non, fz_bl, fz_int, fz_str, fz_tup, fz_ptp, fz_lst, fz_scr, fz_dct, fz_obj, fz_own, fz_odct, fz_oobj, D.frz, nameG, tupG, consG, nilG, frzS, yesB, there, modS, unpI, tupI, callM, call1, take0, argK, grab, Mx.putB, Mx.pick, makeM, make1, methM, meth1, appN, starM, star1, fA, fB, fC]
  have R2 : lcM 5 [4] (rngI (lenA 2 (consM (cstM (.int 1)) (consM (opM addD (unM lenD (varM 0)) (cstM (.int 1))) nilM)))) (nameG 4) (boolM (opM ninD (varM 4) (varM 3))) (varM 4) [some A, some B, some C, some (D.lst (is.map IN)), none] = .ok (.own ((without old.length is).map IN)) [some A, some B, some C, some (D.lst (is.map IN)), none] := by
    refine lc_ok (ds := ((List.range old.length).map fun k : Nat => (1 + (k : Int))).map IN) (e := [some A, some B, some C, some (D.lst (is.map IN)), none]) ?_ rfl rfl l1
    exact rng_from1 (A := .rf 0) rfl rfl la ho.1
  refine fn_rt rfl (seq_nx R1 (ret_ok R2 rfl)) ?_
  simp [seqS, setS, set1, putV, bindS, bindR, ifS, retS, ret1, retN, dropS, asgS, asg1, par2S, par2, par3S, par3, skipS, opM, op2, unM, op1, re, varM, movM, vfzM, cstM, nilM, consM, tupM, lstM, items, vals, val, deref, boolM, asB, andB, orB, notB, andV, orV, notV, ifM, chainM, asI, fzM, fz1, fnM, fin, Mx.finish, fz_non, fz_bl, fz_int, fz_str, fz_tup, fz_ptp, fz_lst, fz_scr, fz_dct, fz_obj, fz_own, fz_odct, fz_oobj, D.frz, nameG, tupG, consG, nilG, frzS, yesB, there, modS, unpI, tupI, fA, fB, fC]
theorem lc_without2 (is : List Int) (n : Nat) (hn : n ≤ 60) (a b c : Option D) : lcL [5] (nameG 5) (boolM (opM ninD (varM 5) (varM 3))) (varM 5) (((List.range n).map fun k : Nat => (1 + (k : Int))).map IN) [a, b, c, some (.lst (is.map IN)), none, none] [] = .ok (.own ((without n is).map IN)) [a, b, c, some (.lst (is.map IN)), none, none] := by
  have z := lcL_map (vs := [5]) (g := nameG 5) (t := boolM (opM ninD (varM 5) (varM 3))) (m := varM 5) (e0 := [a, b, c, some (.lst (is.map IN)), none, none]) rfl IN IN (fun i => !decide (i ∈ is)) ((List.range n).map fun k : Nat => (1 + (k : Int))) [] (fun i hi => ?_) (by simp; omega)
  · simpa [without] using z
  · refine ⟨_, [a, b, c, some (.lst (is.map IN)), none, some (IN i)], rfl, ?_, ?_⟩
    · have := nin_ints i is
      simp only [IN] at this ⊢
      simp [seqS, setS, set1, putV, bindS, bindR, ifS, retS, ret1, retN, dropS, asgS, asg1, par2S, par2, par3S, par3, skipS, opM, op2, unM, op1, re, varM, movM, vfzM, cstM, nilM, consM, tupM, lstM, items, vals, val, deref, boolM, asB, andB, orB, notB, andV, orV, notV, ifM, chainM, asI, fzM, fz1, fnM, fin, Mx.finish, fz_non, fz_bl, fz_int, fz_str, fz_tup, fz_ptp, fz_lst, fz_scr, fz_dct, fz_obj, fz_own, fz_odct, fz_oobj, D.frz, nameG, tupG, consG, nilG, frzS, yesB, there, modS, unpI, tupI, this]
    · cases hb : (!decide (i ∈ is)) with
      | false => exact .inl ⟨rfl, rfl⟩
      | true => exact .inr ⟨rfl, .rf 5, _, rfl, rfl, rfl⟩
theorem come_lines_ok {ta tb : Bool} {old new : List Str} {ps : List (Int × Int)} (ho : okT old) (hn : okT new) (h : okD old new ps) : f_come_lines [TV ta old, TV tb new, DF ps] = .ok (.own ((without new.length (ps.map (·.2))).map IN)) [TV ta old, TV tb new, DF ps] := by
  have e2 := check_diff_ok (a := ta) (b := tb) ho hn h
  have l1 : lcL [4, 5] (tupG 2 (consG (nameG 4) (consG (nameG 5) nilG))) yesB (varM 5) (ps.map PR) [some (TV ta old), some (TV tb new), some (DF ps), none, none, none] [] = .ok (.own (ps.map fun p => IN p.2)) [some (TV ta old), some (TV tb new), some (DF ps), none, none, none] :=
    lcL_all rfl PR _ ps (fun p hp => ⟨_, .rf 5, [some (TV ta old), some (TV tb new), some (DF ps), none, some (.int p.1), some (.int p.2)], rfl, rfl, rfl, rfl⟩) (by have := okD_len h; have := ho.1; omega)
  have hm : (ps.map fun p => IN p.2) = (ps.map (·.2)).map IN := by rw [List.map_map]; rfl
  rw [hm] at l1
  generalize hq : ps.map (·.2) = is at l1 ⊢
  have l2 := lc_without2 is new.length hn.1 (some (TV ta old)) (some (TV tb new)) (some (DF ps))
  have la := la_TV tb new
  have fA := fz_TV ta old
  have fB := fz_TV tb new
  have fC := fz_DF ps
  have sq : seqIt (varM 2) [some (TV ta old), some (TV tb new), some (DF ps), none, none, none] = .ok (ps.map PR) [some (TV ta old), some (TV tb new), some (DF ps), none, none, none] := rfl
  generalize TV ta old = A at *
  generalize TV tb new = B at *
  generalize DF ps = C at *
  simp only [f_come_lines, b_come_lines]
  generalize f_check_diff = F at *
  have R0 : dropS (callM ⟨3, 3, [false, false, false], [0, 1, 2], []⟩ F (consM (varM 0) (consM (varM 1) (consM (varM 2) nilM)))) [some A, some B, some C, none, none, none] = .nx [some A, some B, some C, none, none, none] := by
    refine drop_ok (call_ok (bs := [.v A, .v B, .v C]) (ds := [A, B, C]) (e2 := [some A, some B, some C, none, none, none]) rfl ?_ e2 rfl)
    simp [take0, seqS, setS, set1, putV, bindS, bindR, ifS, retS, ret1, retN, dropS, asgS, asg1, par2S, par2, par3S, par3, skipS, opM, op2, unM, op1, re, varM, movM, vfzM, cstM, nilM, consM, tupM, lstM, items, vals, val, deref, boolM, asB, andB, orB, notB, andV, orV, notV, ifM, chainM, asI, fzM, fz1, fnM, fin, Mx.finish, fz_non, fz_bl, fz_int, fz_str, fz_tup, fz_ptp, fz_lst, fz_scr, fz_dct, fz_obj, fz_own, fz_odct, fz_oobj, D.frz, nameG, tupG, consG, nilG, frzS, yesB, there, modS, unpI, tupI, callM, call1, take0, argK, grab, Mx.putB, Mx.pick, makeM, make1, methM, meth1, appN, starM, star1, fA, fB, fC]
  have R1 : setS 3 (fzM (lcM 6 [4, 5] (seqIt (varM 2)) (tupG 2 (consG (nameG 4) (consG (nameG 5) nilG))) yesB (varM 5))) [some A, some B, some C, none, none, none] = .nx [some A, some B, some C, some (D.lst (is.map IN)), none, none] := 
    set_ok (d := .lst (is.map IN)) (fz_ok (lc_ok sq rfl rfl l1) (fz_ownI _)) rfl (by simp) rfl
  have R2 : lcM 6 [5] (rngI (lenA 2 (consM (cstM (.int 1)) (consM (opM addD (unM lenD (varM 1)) (cstM (.int 1))) nilM)))) (nameG 5) (boolM (opM ninD (varM 5) (varM 3))) (varM 5) [some A, some B, some C, some (D.lst (is.map IN)), none, none] = .ok (.own ((without new.length is).map IN)) [some A, some B, some C, some (D.lst (is.map IN)), none, none] := by
    refine lc_ok (ds := ((List.range new.length).map fun k : Nat => (1 + (k : Int))).map IN) (e := [some A, some B, some C, some (D.lst (is.map IN)), none, none]) ?_ rfl rfl l2
    exact rng_from1 (A := .rf 1) rfl rfl la hn.1
  refine fn_rt rfl (seq_nx R0 (seq_nx R1 (ret_ok R2 rfl))) ?_
  simp [seqS, setS, set1, putV, bindS, bindR, ifS, retS, ret1, retN, dropS, asgS, asg1, par2S, par2, par3S, par3, skipS, opM, op2, unM, op1, re, varM, movM, vfzM, cstM, nilM, consM, tupM, lstM, items, vals, val, deref, boolM, asB, andB, orB, notB, andV, orV, notV, ifM, chainM, asI, fzM, fz1, fnM, fin, Mx.finish, fz_non, fz_bl, fz_int, fz_str, fz_tup, fz_ptp, fz_lst, fz_scr, fz_dct, fz_obj, fz_own, fz_odct, fz_oobj, D.frz, nameG, tupG, consG, nilG, frzS, yesB, there, modS, unpI, tupI, fA, fB, fC]
end Lw
set_option Elab.async false
set_option linter.all false
set_option maxRecDepth 100000
set_option maxHeartbeats 1000000
namespace Lw
open PySem L2 Mx
def QV (q : Int × Int × Int × Int) : D := .tup [.int q.1, .int q.2.1, .int q.2.2.1, .int q.2.2.2]
/-- the blocks of a diff from behind (a, c) on -/
def blks : Int → Int → List (Int × Int) → List (Int × Int × Int × Int)
  | _, _, [] => []
  | a, c, p :: l => (if (a, c) ≠ (p.1 - 1, p.2 - 1) then [(a, p.1 - 1, c, p.2 - 1)] else []) ++ blks p.1 p.2 l
theorem blks_len (a c : Int) (l : List (Int × Int)) : (blks a c l).length ≤ l.length := by
  induction l generalizing a c with
  | nil => simp [blks]
  | cons p l ih =>
    have := ih p.1 p.2
    simp only [blks, List.length_append, List.length_cons]
    split <;> simp <;> omega
theorem ne_pair (a c b d : Int) : neD (.tup [.int a, .int c]) (.tup [.int b, .int d]) = some (.bl (decide ((a, c) ≠ (b, d)))) := by
  by_cases h1 : a = b <;> by_cases h2 : c = d <;> simp [neD, eqvD, py, pyL, SeqAt.shaped, PyData.eqv, PyData.eqvAll, PyData.canLay0, PyData.canLayAll0, PyData.depth, PyData.depthAll, h1, h2]
theorem fz_qv (l : List (Int × Int × Int × Int)) : fzL (l.map QV) = true := fzL_map (fun _ => rfl) l
def bodyB : SM := (seqS (ifS (boolM (opM neD (tupM (consM (varM 4) (consM (varM 5) nilM))) (tupM (consM (opM subD (varM 6) (cstM (.int 1))) (consM (opM subD (varM 7) (cstM (.int 1))) nilM))))) (dropS (appM 3 (tupM (consM (varM 4) (consM (opM subD (varM 6) (cstM (.int 1))) (consM (varM 5) (consM (opM subD (varM 7) (cstM (.int 1))) nilM))))))) skipS) (par2S 4 5 (consM (fzM (varM 6)) (consM (fzM (varM 7)) nilM))))
theorem turnB {A B C : Option D} {acc : List D} (hf : fzL acc = true) (hl : acc.length < 1000000) (a c i j : Int) : bodyB [A, B, C, some (.own acc), some (.int a), some (.int c), some (.int i), some (.int j)] = .nx [A, B, C, some (.own (acc ++ (if (a, c) ≠ (i - 1, j - 1) then [(a, i - 1, c, j - 1)] else []).map QV)), some (.int i), some (.int j), some (.int i), some (.int j)] := by
  have h1 : boolM (opM neD (tupM (consM (varM 4) (consM (varM 5) nilM))) (tupM (consM (opM subD (varM 6) (cstM (.int 1))) (consM (opM subD (varM 7) (cstM (.int 1))) nilM)))) [A, B, C, some (.own acc), some (.int a), some (.int c), some (.int i), some (.int j)] = .ok (decide ((a, c) ≠ (i - 1, j - 1))) [A, B, C, some (.own acc), some (.int a), some (.int c), some (.int i), some (.int j)] := by
    have := ne_pair a c (i - 1) (j - 1)
    simp only [seqS, setS, set1, putV, bindS, bindR, ifS, retS, ret1, retN, dropS, asgS, asg1, par2S, par2, par3S, par3, skipS, opM, op2, unM, op1, re, varM, movM, vfzM, cstM, nilM, consM, tupM, lstM, items, vals, val, deref, boolM, asB, andB, orB, notB, andV, orV, notV, ifM, chainM, asI, fzM, fz1, fnM, fin, Mx.finish, fz_non, fz_bl, fz_int, fz_str, fz_tup, fz_ptp, fz_lst, fz_scr, fz_dct, fz_obj, fz_own, fz_odct, fz_oobj, D.frz, nameG, tupG, consG, nilG, frzS, yesB, there, modS, unpI, tupI, List.getElem?_cons_succ, List.getElem?_cons_zero, subD, List.length_cons, List.length_nil]
    simp [seqS, setS, set1, putV, bindS, bindR, ifS, retS, ret1, retN, dropS, asgS, asg1, par2S, par2, par3S, par3, skipS, opM, op2, unM, op1, re, varM, movM, vfzM, cstM, nilM, consM, tupM, lstM, items, vals, val, deref, boolM, asB, andB, orB, notB, andV, orV, notV, ifM, chainM, asI, fzM, fz1, fnM, fin, Mx.finish, fz_non, fz_bl, fz_int, fz_str, fz_tup, fz_ptp, fz_lst, fz_scr, fz_dct, fz_obj, fz_own, fz_odct, fz_oobj, D.frz, nameG, tupG, consG, nilG, frzS, yesB, there, modS, unpI, tupI, this]
  have h2 : ∀ acc' : List D, par2S 4 5 (consM (fzM (varM 6)) (consM (fzM (varM 7)) nilM)) [A, B, C, some (.own acc'), some (.int a), some (.int c), some (.int i), some (.int j)] = .nx [A, B, C, some (.own acc'), some (.int i), some (.int j), some (.int i), some (.int j)] := by
    intro acc'
    rfl
  by_cases h : (a, c) ≠ (i - 1, j - 1)
  · rw [if_pos h]
    rw [show decide ((a, c) ≠ (i - 1, j - 1)) = true from decide_eq_true h] at h1
    refine seq_nx (if_tt h1 (drop_ok (x := .non) (e := [A, B, C, some (.own (acc ++ [QV (a, i - 1, c, j - 1)])), some (.int a), some (.int c), some (.int i), some (.int j)]) ?_)) (h2 _)
    simp [appM, appM.isOwn, seqS, setS, set1, putV, bindS, bindR, ifS, retS, ret1, retN, dropS, asgS, asg1, par2S, par2, par3S, par3, skipS, opM, op2, unM, op1, re, varM, movM, vfzM, cstM, nilM, consM, tupM, lstM, items, vals, val, deref, boolM, asB, andB, orB, notB, andV, orV, notV, ifM, chainM, asI, fzM, fz1, fnM, fin, Mx.finish, fz_non, fz_bl, fz_int, fz_str, fz_tup, fz_ptp, fz_lst, fz_scr, fz_dct, fz_obj, fz_own, fz_odct, fz_oobj, D.frz, nameG, tupG, consG, nilG, frzS, yesB, there, modS, unpI, tupI, subD, appD, hf, hl, QV]
  · rw [if_neg h]
    rw [show decide ((a, c) ≠ (i - 1, j - 1)) = false from decide_eq_false h] at h1
    rw [List.map_nil, List.append_nil]
    exact seq_nx (if_ff h1 rfl) (h2 _)
theorem loopB {A B C : Option D} : ∀ (l : List (Int × Int)) (acc : List (Int × Int × Int × Int)) (a c : Int) (x y : Option D), acc.length + l.length < 1000000 → ∃ a' c' x' y', forL (tupG 2 (consG (nameG 6) (consG (nameG 7) nilG))) bodyB (l.map PR) [A, B, C, some (.own (acc.map QV)), some (.int a), some (.int c), x, y] = .nx [A, B, C, some (.own ((acc ++ blks a c l).map QV)), some (.int a'), some (.int c'), x', y']
  | [], acc, a, c, x, y, _ => ⟨a, c, x, y, by simp [forL, blks]⟩
  | p :: l, acc, a, c, x, y, h => by
    simp only [List.length_cons] at h
    have t := turnB (A := A) (B := B) (C := C) (fz_qv acc) (by simp; omega) a c p.1 p.2
    have hl : (if (a, c) ≠ (p.1 - 1, p.2 - 1) then [(a, p.1 - 1, c, p.2 - 1)] else []).length ≤ 1 := by split <;> simp
    obtain ⟨a', c', x', y', r⟩ := loopB l (acc ++ if (a, c) ≠ (p.1 - 1, p.2 - 1) then [(a, p.1 - 1, c, p.2 - 1)] else []) p.1 p.2 (some (.int p.1)) (some (.int p.2)) (by rw [List.length_append]; omega)
    refine ⟨a', c', x', y', ?_⟩
    rw [List.map_cons]
    rw [forL, show tupG 2 (consG (nameG 6) (consG (nameG 7) nilG)) (PR p) [A, B, C, some (.own (acc.map QV)), some (.int a), some (.int c), x, y] = some [A, B, C, some (.own (acc.map QV)), some (.int a), some (.int c), some (.int p.1), some (.int p.2)] from rfl]
    simp only [t]
    rw [← List.map_append, r, blks, List.append_assoc]
/-- the blocks of a diff of texts of m and of n lines -/
def blocks (m n : Nat) (ps : List (Int × Int)) : List (Int × Int × Int × Int) := blks 0 0 (ps ++ [((m : Int) + 1, (n : Int) + 1)])
theorem for_ok {im : IM} {g : GM} {b : SM} {env e : Mx.Env} {ds : List D} {r : Out} (h1 : im env = .ok ds e) (h2 : forL g b ds e = r) : forS im g b env = r := by
  simp only [forS, h1, bindS, h2]
theorem un_int {m : EM} {e : Mx.Env} {i : Int} (h : m e = .ok (.int i) e) (j : Int) : opM addD m (cstM (.int j)) e = .ok (.int (i + j)) e := op_ok h rfl rfl rfl rfl
theorem blocks_of_ok {ta tb : Bool} {old new : List Str} {ps : List (Int × Int)} (ho : okT old) (hn : okT new) (h : okD old new ps) : f_blocks_of [TV ta old, TV tb new, DF ps] = .ok (.own ((blocks old.length new.length ps).map QV)) [TV ta old, TV tb new, DF ps] := by
  have e2 := check_diff_ok (a := ta) (b := tb) ho hn h
  have hlen : ps.length ≤ 60 := by have := okD_len h; have := ho.1; omega
  obtain ⟨a', c', x', y', hB⟩ := loopB (A := some (TV ta old)) (B := some (TV tb new)) (C := some (DF ps)) (ps ++ [((old.length : Int) + 1, (new.length : Int) + 1)]) [] 0 0 none none (by simp; omega)
  have la := la_TV ta old
  have lb := la_TV tb new
  have fA := fz_TV ta old
  have fB := fz_TV tb new
  have fC := fz_DF ps
  have ad : addD (DF ps) (.tup [PR ((old.length : Int) + 1, (new.length : Int) + 1)]) = some (.tup ((ps ++ [((old.length : Int) + 1, (new.length : Int) + 1)]).map PR)) := by
    simp [addD, DF, lstT, tupI, big] <;> omega
  rw [List.nil_append] at hB
  generalize TV ta old = A at *
  generalize TV tb new = B at *
  generalize DF ps = C at *
  simp only [f_blocks_of, b_blocks_of]
  generalize f_check_diff = F at *
  have R0 : dropS (callM ⟨3, 3, [false, false, false], [0, 1, 2], []⟩ F (consM (varM 0) (consM (varM 1) (consM (varM 2) nilM)))) [some A, some B, some C, none, none, none, none, none] = .nx [some A, some B, some C, none, none, none, none, none] := by
    refine drop_ok (call_ok (bs := [.v A, .v B, .v C]) (ds := [A, B, C]) (e2 := [some A, some B, some C, none, none, none, none, none]) rfl ?_ e2 rfl)
    simp [take0, seqS, setS, set1, putV, bindS, bindR, ifS, retS, ret1, retN, dropS, asgS, asg1, par2S, par2, par3S, par3, skipS, opM, op2, unM, op1, re, varM, movM, vfzM, cstM, nilM, consM, tupM, lstM, items, vals, val, deref, boolM, asB, andB, orB, notB, andV, orV, notV, ifM, chainM, asI, fzM, fz1, fnM, fin, Mx.finish, fz_non, fz_bl, fz_int, fz_str, fz_tup, fz_ptp, fz_lst, fz_scr, fz_dct, fz_obj, fz_own, fz_odct, fz_oobj, D.frz, nameG, tupG, consG, nilG, frzS, yesB, there, modS, unpI, tupI, callM, call1, take0, argK, grab, Mx.putB, Mx.pick, makeM, make1, methM, meth1, appN, starM, star1, fA, fB, fC]
  have R1 : setS 3 (lstM nilM) [some A, some B, some C, none, none, none, none, none] = .nx [some A, some B, some C, some (.own []), none, none, none, none] := rfl
  have R2 : asgS (tupM (consM (cstM (.int 0)) (consM (cstM (.int 0)) nilM))) (tupG 2 (consG (nameG 4) (consG (nameG 5) nilG))) [some A, some B, some C, some (.own []), none, none, none, none] = .nx [some A, some B, some C, some (.own []), some (.int 0), some (.int 0), none, none] := rfl
  generalize hE : [some A, some B, some C, some (.own []), some (.int 0), some (.int 0), none, none] = E at R2
  have i1 : opM addD (unM lenD (varM 0)) (cstM (.int 1)) E = .ok (.int ((old.length : Int) + 1)) E := un_int (un_ok (x := .rf 0) (by rw [← hE]; rfl) (by rw [← hE]; rfl) la) 1
  have i2 : opM addD (unM lenD (varM 1)) (cstM (.int 1)) E = .ok (.int ((new.length : Int) + 1)) E := un_int (un_ok (x := .rf 1) (by rw [← hE]; rfl) (by rw [← hE]; rfl) lb) 1
  have i3 : tupM (consM (opM addD (unM lenD (varM 0)) (cstM (.int 1))) (consM (opM addD (unM lenD (varM 1)) (cstM (.int 1))) nilM)) E = .ok (PR ((old.length : Int) + 1, (new.length : Int) + 1)) E := by
    simp only [tupM, consM, i1, i2, bindR, nilM]
    simp [seqS, setS, set1, putV, bindS, bindR, ifS, retS, ret1, retN, dropS, asgS, asg1, par2S, par2, par3S, par3, skipS, opM, op2, unM, op1, re, varM, movM, vfzM, cstM, nilM, consM, tupM, lstM, items, vals, val, deref, boolM, asB, andB, orB, notB, andV, orV, notV, ifM, chainM, asI, fzM, fz1, fnM, fin, Mx.finish, fz_non, fz_bl, fz_int, fz_str, fz_tup, fz_ptp, fz_lst, fz_scr, fz_dct, fz_obj, fz_own, fz_odct, fz_oobj, D.frz, nameG, tupG, consG, nilG, frzS, yesB, there, modS, unpI, tupI, PR]
  have i4 : tupM (consM (tupM (consM (opM addD (unM lenD (varM 0)) (cstM (.int 1))) (consM (opM addD (unM lenD (varM 1)) (cstM (.int 1))) nilM))) nilM) E = .ok (.tup [PR ((old.length : Int) + 1, (new.length : Int) + 1)]) E := by
    rw [tupM]
    simp only [consM, i3, bindR, nilM]
    simp [seqS, setS, set1, putV, bindS, bindR, ifS, retS, ret1, retN, dropS, asgS, asg1, par2S, par2, par3S, par3, skipS, opM, op2, unM, op1, re, varM, movM, vfzM, cstM, nilM, consM, tupM, lstM, items, vals, val, deref, boolM, asB, andB, orB, notB, andV, orV, notV, ifM, chainM, asI, fzM, fz1, fnM, fin, Mx.finish, fz_non, fz_bl, fz_int, fz_str, fz_tup, fz_ptp, fz_lst, fz_scr, fz_dct, fz_obj, fz_own, fz_odct, fz_oobj, D.frz, nameG, tupG, consG, nilG, frzS, yesB, there, modS, unpI, tupI, PR]
  have i5 := op_ok (f := addD) (a := varM 2) (env := E) (e := E) (x := .rf 2) (x' := C) (by rw [← hE]; rfl) i4 (by rw [← hE]; rfl) rfl ad
  have i6 : seqIt (opM addD (varM 2) (tupM (consM (tupM (consM (opM addD (unM lenD (varM 0)) (cstM (.int 1))) (consM (opM addD (unM lenD (varM 1)) (cstM (.int 1))) nilM))) nilM))) E = .ok ((ps ++ [((old.length : Int) + 1, (new.length : Int) + 1)]).map PR) E := by
    simp only [seqIt, i5, bindR]
    rfl
  have hB' : forL (tupG 2 (consG (nameG 6) (consG (nameG 7) nilG))) bodyB ((ps ++ [((old.length : Int) + 1, (new.length : Int) + 1)]).map PR) E = .nx [some A, some B, some C, some (.own ((blocks old.length new.length ps).map QV)), some (.int a'), some (.int c'), x', y'] := by
    rw [← hE]; exact hB
  refine fn_rt rfl (seq_nx R0 (seq_nx R1 (seq_nx R2 (seq_nx (for_ok i6 hB') (ret_ok rfl rfl))))) ?_
  simp [seqS, setS, set1, putV, bindS, bindR, ifS, retS, ret1, retN, dropS, asgS, asg1, par2S, par2, par3S, par3, skipS, opM, op2, unM, op1, re, varM, movM, vfzM, cstM, nilM, consM, tupM, lstM, items, vals, val, deref, boolM, asB, andB, orB, notB, andV, orV, notV, ifM, chainM, asI, fzM, fz1, fnM, fin, Mx.finish, fz_non, fz_bl, fz_int, fz_str, fz_tup, fz_ptp, fz_lst, fz_scr, fz_dct, fz_obj, fz_own, fz_odct, fz_oobj, D.frz, nameG, tupG, consG, nilG, frzS, yesB, there, modS, unpI, tupI, fA, fB, fC]
end Lw
set_option Elab.async false
set_option linter.all false
set_option maxRecDepth 100000
set_option maxHeartbeats 1000000
namespace Lw
open PySem L2 Mx
/-- the costs of all lines, the costs of their own -/
def CO (pl : Int × Int) (own : List (Str × (Int × Int))) : D := .obj "Costs" ["plain_costs", "own_costs"] [PR pl, .dct (own.map fun p => .inr p.1) (own.map fun p => PR p.2)]
def ownOf (own : List (Str × (Int × Int))) (pl : Int × Int) (x : Str) : Int × Int := match own with
  | [] => pl
  | p :: own => if p.1 = x then p.2 else ownOf own pl x
theorem getKey_own (own : List (Str × (Int × Int))) (pl : Int × Int) (x : Str) : (match getKey (own.map fun p => (.inr p.1 : Key)) (own.map fun p => PR p.2) (.inr x) with | some z => z | none => PR pl) = PR (ownOf own pl x) := by
  induction own with
  | nil => rfl
  | cons p own ih =>
    by_cases h : p.1 = x
    · simp [getKey, ownOf, h]
    · simpa [getKey, ownOf, h] using ih
theorem getKey_own' (own : List (Str × (Int × Int))) (pl : Int × Int) (x : Str) (e : Mx.Env) : (match getKey (own.map fun p => (.inr p.1 : Key)) (own.map fun p => PR p.2) (.inr x) with | some z => Re.ok z e | none => Re.ok (PR pl) e) = .ok (PR (ownOf own pl x)) e := by
  have := getKey_own own pl x
  split at this <;> rw [this]
theorem fz_PR (p : Int × Int) : (PR p).fz = true := rfl
theorem fz_CO (pl : Int × Int) (own : List (Str × (Int × Int))) : (CO pl own).fz = true := by
  simp [CO, fzL, D.fz, fz_PR, fzL_map (f := fun p : Str × (Int × Int) => PR p.2) (fun _ => rfl) own]
theorem costs_of_ok (pl : Int × Int) (own : List (Str × (Int × Int))) {x : Str} (hx : okS x) : f_Costs_costs_of [CO pl own, .str x] = .ok (PR (ownOf own pl x)) [CO pl own, .str x] := by
  have e1 := is_line_ok hx
  have fC := fz_CO pl own
  have g1 : fldD "Costs" "own_costs" (CO pl own) = some (.dct (own.map fun p => .inr p.1) (own.map fun p => PR p.2)) := rfl
  have g2 : fldD "Costs" "plain_costs" (CO pl own) = some (PR pl) := rfl
  have q := getKey_own' own pl x [some (CO pl own), some (.str x)]
  generalize CO pl own = C at *
  simp only [f_Costs_costs_of, b_Costs_costs_of]
  generalize f_is_line = F at *
  have R0 : notB (boolM (callM ⟨1, 1, [false], [0], []⟩ F (consM (varM 1) nilM))) [some C, some (.str x)] = .ok false [some C, some (.str x)] := by
    simp [seqS, setS, set1, putV, bindS, bindR, ifS, retS, ret1, retN, dropS, asgS, asg1, par2S, par2, par3S, par3, skipS, opM, op2, unM, op1, re, varM, movM, vfzM, cstM, nilM, consM, tupM, lstM, items, vals, val, deref, boolM, asB, andB, orB, notB, andV, orV, notV, ifM, chainM, asI, fzM, fz1, fnM, fin, Mx.finish, fz_non, fz_bl, fz_int, fz_str, fz_tup, fz_ptp, fz_lst, fz_scr, fz_dct, fz_obj, fz_own, fz_odct, fz_oobj, D.frz, nameG, tupG, consG, nilG, frzS, yesB, there, modS, unpI, tupI, callM, call1, take0, argK, grab, Mx.putB, Mx.pick, makeM, make1, methM, meth1, appN, starM, star1, e1]
  have R1 : dgetM (unM (fldD "Costs" "own_costs") (varM 0)) (varM 1) (unM (fldD "Costs" "plain_costs") (varM 0)) [some C, some (.str x)] = .ok (PR (ownOf own pl x)) [some C, some (.str x)] := by
    have a1 : unM (fldD "Costs" "own_costs") (varM 0) [some C, some (.str x)] = .ok (.dct (own.map fun p => .inr p.1) (own.map fun p => PR p.2)) [some C, some (.str x)] := un_ok rfl rfl g1
    have a2 : unM (fldD "Costs" "plain_costs") (varM 0) [some C, some (.str x)] = .ok (PR pl) [some C, some (.str x)] := un_ok rfl rfl g2
    have a3 : val [some C, some (.str x)] (PR pl) = some (PR pl) := rfl
    simp only [dgetM, a1, a2, bindR, deref, dictI, Option.bind_some]
    simp only [varM, List.getElem?_cons_succ, List.getElem?_cons_zero, get2, deref, dictI, Option.bind_some, keyI, a3]
    simp only [a2, a3, deref, keyI, Option.bind_some, List.getElem?_cons_succ, List.getElem?_cons_zero]
    exact q
  refine fn_rt rfl (seq_nx (if_ff R0 rfl) (ret_ok R1 rfl)) ?_
  simp [seqS, setS, set1, putV, bindS, bindR, ifS, retS, ret1, retN, dropS, asgS, asg1, par2S, par2, par3S, par3, skipS, opM, op2, unM, op1, re, varM, movM, vfzM, cstM, nilM, consM, tupM, lstM, items, vals, val, deref, boolM, asB, andB, orB, notB, andV, orV, notV, ifM, chainM, asI, fzM, fz1, fnM, fin, Mx.finish, fz_non, fz_bl, fz_int, fz_str, fz_tup, fz_ptp, fz_lst, fz_scr, fz_dct, fz_obj, fz_own, fz_odct, fz_oobj, D.frz, nameG, tupG, consG, nilG, frzS, yesB, there, modS, unpI, tupI, PR, fC]
end Lw
set_option Elab.async false
set_option linter.all false
set_option maxRecDepth 100000
set_option maxHeartbeats 1000000
namespace Lw
open PySem L2 Mx
theorem meth_ok {g : Sg} {c mn : Str} {f : FM} {o : EM} {a : AM} {env e e2 e3 e4 : Mx.Env} {x : D} {ns : List Str} {xs : List D} {ts ds ds' : List D} {bs : List Ar} {r : D} (ho : o env = .ok x e) (hd : deref e x = some (.obj c ns xs)) (hn : mn ∉ ns) (ha : a e = .ok ts e2) (hp : take0 g (x :: ts) e2 = some (bs, ds, e3)) (hf : f ds = .ok r ds') (hb : Mx.putB bs ds' e3 = some e4) : methM g c mn f o a env = .ok r e4 := by
  simp only [methM, ho, bindR, meth1, hd, ha, call1, hp, hf, hb]
  rw [if_pos ⟨trivial, hn⟩]
theorem going_ok (pl : Int × Int) (own : List (Str × (Int × Int))) {x : Str} (hx : okS x) : f_Costs_going [CO pl own, .str x] = .ok (.int (ownOf own pl x).1) [CO pl own, .str x] := by
  have e1 := costs_of_ok pl own hx
  have fC := fz_CO pl own
  obtain ⟨xs, hC⟩ : ∃ xs, CO pl own = .obj "Costs" ["plain_costs", "own_costs"] xs := ⟨_, rfl⟩
  generalize CO pl own = C at *
  simp only [f_Costs_going, b_Costs_going]
  generalize f_Costs_costs_of = F at *
  have R0 : methM ⟨2, 2, [false, false], [0, 1], []⟩ "Costs" "costs_of" F (varM 0) (consM (varM 1) nilM) [some C, some (.str x)] = .ok (PR (ownOf own pl x)) [some C, some (.str x)] := by
    refine meth_ok (x := .rf 0) (ns := ["plain_costs", "own_costs"]) (xs := xs) rfl (by rw [← hC]; rfl) (by decide) rfl (bs := [.v C, .v (.str x)]) (ds := [C, .str x]) (e3 := [some C, some (.str x)]) ?_ e1 rfl
    simp [take0, seqS, setS, set1, putV, bindS, bindR, ifS, retS, ret1, retN, dropS, asgS, asg1, par2S, par2, par3S, par3, skipS, opM, op2, unM, op1, re, varM, movM, vfzM, cstM, nilM, consM, tupM, lstM, items, vals, val, deref, boolM, asB, andB, orB, notB, andV, orV, notV, ifM, chainM, asI, fzM, fz1, fnM, fin, Mx.finish, fz_non, fz_bl, fz_int, fz_str, fz_tup, fz_ptp, fz_lst, fz_scr, fz_dct, fz_obj, fz_own, fz_odct, fz_oobj, D.frz, nameG, tupG, consG, nilG, frzS, yesB, there, modS, unpI, tupI, callM, call1, take0, argK, grab, Mx.putB, Mx.pick, makeM, make1, methM, meth1, appN, starM, star1, fC]
  refine fn_rt rfl (ret_ok (op_ok R0 rfl rfl rfl rfl) rfl) ?_
  simp [seqS, setS, set1, putV, bindS, bindR, ifS, retS, ret1, retN, dropS, asgS, asg1, par2S, par2, par3S, par3, skipS, opM, op2, unM, op1, re, varM, movM, vfzM, cstM, nilM, consM, tupM, lstM, items, vals, val, deref, boolM, asB, andB, orB, notB, andV, orV, notV, ifM, chainM, asI, fzM, fz1, fnM, fin, Mx.finish, fz_non, fz_bl, fz_int, fz_str, fz_tup, fz_ptp, fz_lst, fz_scr, fz_dct, fz_obj, fz_own, fz_odct, fz_oobj, D.frz, nameG, tupG, consG, nilG, frzS, yesB, there, modS, unpI, tupI, fC]
theorem coming_ok (pl : Int × Int) (own : List (Str × (Int × Int))) {x : Str} (hx : okS x) : f_Costs_coming [CO pl own, .str x] = .ok (.int (ownOf own pl x).2) [CO pl own, .str x] := by
  have e1 := costs_of_ok pl own hx
  have fC := fz_CO pl own
  obtain ⟨xs, hC⟩ : ∃ xs, CO pl own = .obj "Costs" ["plain_costs", "own_costs"] xs := ⟨_, rfl⟩
  generalize CO pl own = C at *
  simp only [f_Costs_coming, b_Costs_coming]
  generalize f_Costs_costs_of = F at *
  have R0 : methM ⟨2, 2, [false, false], [0, 1], []⟩ "Costs" "costs_of" F (varM 0) (consM (varM 1) nilM) [some C, some (.str x)] = .ok (PR (ownOf own pl x)) [some C, some (.str x)] := by
    refine meth_ok (x := .rf 0) (ns := ["plain_costs", "own_costs"]) (xs := xs) rfl (by rw [← hC]; rfl) (by decide) rfl (bs := [.v C, .v (.str x)]) (ds := [C, .str x]) (e3 := [some C, some (.str x)]) ?_ e1 rfl
    simp [take0, seqS, setS, set1, putV, bindS, bindR, ifS, retS, ret1, retN, dropS, asgS, asg1, par2S, par2, par3S, par3, skipS, opM, op2, unM, op1, re, varM, movM, vfzM, cstM, nilM, consM, tupM, lstM, items, vals, val, deref, boolM, asB, andB, orB, notB, andV, orV, notV, ifM, chainM, asI, fzM, fz1, fnM, fin, Mx.finish, fz_non, fz_bl, fz_int, fz_str, fz_tup, fz_ptp, fz_lst, fz_scr, fz_dct, fz_obj, fz_own, fz_odct, fz_oobj, D.frz, nameG, tupG, consG, nilG, frzS, yesB, there, modS, unpI, tupI, callM, call1, take0, argK, grab, Mx.putB, Mx.pick, makeM, make1, methM, meth1, appN, starM, star1, fC]
  refine fn_rt rfl (ret_ok (op_ok R0 rfl rfl rfl rfl) rfl) ?_
  simp [seqS, setS, set1, putV, bindS, bindR, ifS, retS, ret1, retN, dropS, asgS, asg1, par2S, par2, par3S, par3, skipS, opM, op2, unM, op1, re, varM, movM, vfzM, cstM, nilM, consM, tupM, lstM, items, vals, val, deref, boolM, asB, andB, orB, notB, andV, orV, notV, ifM, chainM, asI, fzM, fz1, fnM, fin, Mx.finish, fz_non, fz_bl, fz_int, fz_str, fz_tup, fz_ptp, fz_lst, fz_scr, fz_dct, fz_obj, fz_own, fz_odct, fz_oobj, D.frz, nameG, tupG, consG, nilG, frzS, yesB, there, modS, unpI, tupI, fC]
def lineT (xs : List Str) (i : Int) : Str := (lineAt xs i).getD ⟨#[]⟩
theorem lineT_ok {t : Bool} {xs : List Str} {i : Int} (h : 1 ≤ i) (k : i ≤ xs.length) : lineT xs i ∈ xs ∧ ixD (TV t xs) (.int (i - 1)) = some (.str (lineT xs i)) := by
  obtain ⟨x, h1, h2⟩ := lineAt_some h k
  have a := atI_line h k
  simp only [lineT, h1, Option.getD_some]
  refine ⟨h2, ?_⟩
  cases t <;> simp [ixD, TV_t, TV_f, Mx.seqI, lstI, tupI, a, h1]
theorem mem_without {n : Nat} {is : List Int} {i : Int} (h : i ∈ without n is) : 1 ≤ i ∧ i ≤ n := by
  simp only [without, List.mem_filter, List.mem_map, List.mem_range] at h
  obtain ⟨⟨k, hk, rfl⟩, _⟩ := h
  omega
theorem without_len (n : Nat) (is : List Int) : (without n is).length ≤ n := by
  have := List.length_filter_le (fun i => !decide (i ∈ is)) ((List.range n).map fun k : Nat => (1 + (k : Int)))
  simpa [without] using this
theorem nums_map (l : List Int) : nums (l.map IN) = some l := by
  induction l with
  | nil => rfl
  | cons a l ih => simp [nums, IN, List.map_cons] <;> exact ih
theorem sum_ints (l : List Int) : sumD (.own (l.map IN)) = some (.int l.sum) := by
  simp only [sumD, lstI_own (fzL_map (f := IN) (fun _ => rfl) l), Option.bind_some, nums_map, Option.map_some]
def goneI (pl : Int × Int) (own : List (Str × (Int × Int))) (old : List Str) (ps : List (Int × Int)) : List Int := (without old.length (ps.map (·.1))).map fun i => (ownOf own pl (lineT old i)).1
def comeI (pl : Int × Int) (own : List (Str × (Int × Int))) (new : List Str) (ps : List (Int × Int)) : List Int := (without new.length (ps.map (·.2))).map fun i => (ownOf own pl (lineT new i)).2
theorem check_costs_ok (pl : Int × Int) (own : List (Str × (Int × Int))) : f_check_costs [CO pl own] = .ok .non [CO pl own] := by
  have fC := fz_CO pl own
  have i1 : isCD "Costs" (CO pl own) = some (.bl true) := rfl
  generalize CO pl own = C at *
  simp [f_check_costs, b_check_costs, seqS, setS, set1, putV, bindS, bindR, ifS, retS, ret1, retN, dropS, asgS, asg1, par2S, par2, par3S, par3, skipS, opM, op2, unM, op1, re, varM, movM, vfzM, cstM, nilM, consM, tupM, lstM, items, vals, val, deref, boolM, asB, andB, orB, notB, andV, orV, notV, ifM, chainM, asI, fzM, fz1, fnM, fin, Mx.finish, fz_non, fz_bl, fz_int, fz_str, fz_tup, fz_ptp, fz_lst, fz_scr, fz_dct, fz_obj, fz_own, fz_odct, fz_oobj, D.frz, nameG, tupG, consG, nilG, frzS, yesB, there, modS, unpI, tupI, i1, fC]
theorem seq_own (l : List Int) (e : Mx.Env) : seq1 (.own (l.map IN)) e = .ok (l.map IN) e := by simp [seq1, seqD, val, D.frz, fz_ints]
theorem cost_of_ok {ta tb : Bool} {old new : List Str} {ps : List (Int × Int)} {pl : Int × Int} {own : List (Str × (Int × Int))} (ho : okT old) (hn : okT new) (h : okD old new ps) : f_cost_of [TV ta old, TV tb new, DF ps, CO pl own] = .ok (.int ((goneI pl own old ps).sum + (comeI pl own new ps).sum)) [TV ta old, TV tb new, DF ps, CO pl own] := by
  have e1 := check_diff_ok (a := ta) (b := tb) ho hn h
  have e2 := check_costs_ok pl own
  have e3 := gone_lines_ok (ta := ta) (tb := tb) ho hn h
  have e4 := come_lines_ok (ta := ta) (tb := tb) ho hn h
  have e5 : ∀ i ∈ without old.length (ps.map (·.1)), ixD (TV ta old) (.int (i - 1)) = some (.str (lineT old i)) ∧ f_Costs_going [CO pl own, .str (lineT old i)] = .ok (.int (ownOf own pl (lineT old i)).1) [CO pl own, .str (lineT old i)] := fun i hi => by
    obtain ⟨a, b⟩ := lineT_ok (t := ta) (mem_without hi).1 (mem_without hi).2
    exact ⟨b, going_ok pl own (ho.2 _ a)⟩
  have e6 : ∀ i ∈ without new.length (ps.map (·.2)), ixD (TV tb new) (.int (i - 1)) = some (.str (lineT new i)) ∧ f_Costs_coming [CO pl own, .str (lineT new i)] = .ok (.int (ownOf own pl (lineT new i)).2) [CO pl own, .str (lineT new i)] := fun i hi => by
    obtain ⟨a, b⟩ := lineT_ok (t := tb) (mem_without hi).1 (mem_without hi).2
    exact ⟨b, coming_ok pl own (hn.2 _ a)⟩
  have l5 : (without old.length (ps.map (·.1))).length ≤ 1000000 := by have := without_len old.length (ps.map (·.1)); have := ho.1; omega
  have l6 : (without new.length (ps.map (·.2))).length ≤ 1000000 := by have := without_len new.length (ps.map (·.2)); have := hn.1; omega
  have s5 := sum_ints (goneI pl own old ps)
  have s6 := sum_ints (comeI pl own new ps)
  simp only [goneI, comeI, List.map_map] at s5 s6 ⊢
  generalize without old.length (ps.map (·.1)) = is at *
  generalize without new.length (ps.map (·.2)) = js at *
  have fA := fz_TV ta old
  have fB := fz_TV tb new
  have fC := fz_DF ps
  have fD := fz_CO pl own
  obtain ⟨xs, hK⟩ : ∃ xs, CO pl own = .obj "Costs" ["plain_costs", "own_costs"] xs := ⟨_, rfl⟩
  generalize TV ta old = A at *
  generalize TV tb new = B at *
  generalize DF ps = C at *
  generalize CO pl own = K at *
  simp only [f_cost_of, b_cost_of]
  generalize f_check_diff = F1 at *
  generalize f_check_costs = F2 at *
  generalize f_gone_lines = F3 at *
  generalize f_come_lines = F4 at *
  generalize f_Costs_going = F5 at *
  generalize f_Costs_coming = F6 at *
  have R1 : dropS (callM ⟨3, 3, [false, false, false], [0, 1, 2], []⟩ F1 (consM (varM 0) (consM (varM 1) (consM (varM 2) nilM)))) [some A, some B, some C, some K, none, none, none] = .nx [some A, some B, some C, some K, none, none, none] := by
    refine drop_ok (call_ok (bs := [.v A, .v B, .v C]) (ds := [A, B, C]) (e2 := [some A, some B, some C, some K, none, none, none]) rfl ?_ e1 rfl)
    simp [take0, seqS, setS, set1, putV, bindS, bindR, ifS, retS, ret1, retN, dropS, asgS, asg1, par2S, par2, par3S, par3, skipS, opM, op2, unM, op1, re, varM, movM, vfzM, cstM, nilM, consM, tupM, lstM, items, vals, val, deref, boolM, asB, andB, orB, notB, andV, orV, notV, ifM, chainM, asI, fzM, fz1, fnM, fin, Mx.finish, fz_non, fz_bl, fz_int, fz_str, fz_tup, fz_ptp, fz_lst, fz_scr, fz_dct, fz_obj, fz_own, fz_odct, fz_oobj, D.frz, nameG, tupG, consG, nilG, frzS, yesB, there, modS, unpI, tupI, callM, call1, take0, argK, grab, Mx.putB, Mx.pick, makeM, make1, methM, meth1, appN, starM, star1, fA, fB, fC]
  have R2 : dropS (callM ⟨1, 1, [false], [0], []⟩ F2 (consM (varM 3) nilM)) [some A, some B, some C, some K, none, none, none] = .nx [some A, some B, some C, some K, none, none, none] := by
    refine drop_ok (call_ok (bs := [.v K]) (ds := [K]) (e2 := [some A, some B, some C, some K, none, none, none]) rfl ?_ e2 rfl)
    simp [take0, seqS, setS, set1, putV, bindS, bindR, ifS, retS, ret1, retN, dropS, asgS, asg1, par2S, par2, par3S, par3, skipS, opM, op2, unM, op1, re, varM, movM, vfzM, cstM, nilM, consM, tupM, lstM, items, vals, val, deref, boolM, asB, andB, orB, notB, andV, orV, notV, ifM, chainM, asI, fzM, fz1, fnM, fin, Mx.finish, fz_non, fz_bl, fz_int, fz_str, fz_tup, fz_ptp, fz_lst, fz_scr, fz_dct, fz_obj, fz_own, fz_odct, fz_oobj, D.frz, nameG, tupG, consG, nilG, frzS, yesB, there, modS, unpI, tupI, callM, call1, take0, argK, grab, Mx.putB, Mx.pick, makeM, make1, methM, meth1, appN, starM, star1, fD]
  have c3 : seqIt (callM ⟨3, 3, [false, false, false], [0, 1, 2], []⟩ F3 (consM (varM 0) (consM (varM 1) (consM (varM 2) nilM)))) [some A, some B, some C, some K, none, none, none] = .ok (is.map IN) [some A, some B, some C, some K, none, none, none] := by
    have : callM ⟨3, 3, [false, false, false], [0, 1, 2], []⟩ F3 (consM (varM 0) (consM (varM 1) (consM (varM 2) nilM))) [some A, some B, some C, some K, none, none, none] = .ok (.own (is.map IN)) [some A, some B, some C, some K, none, none, none] := by
      refine call_ok (bs := [.v A, .v B, .v C]) (ds := [A, B, C]) (e2 := [some A, some B, some C, some K, none, none, none]) rfl ?_ e3 rfl
      simp [take0, seqS, setS, set1, putV, bindS, bindR, ifS, retS, ret1, retN, dropS, asgS, asg1, par2S, par2, par3S, par3, skipS, opM, op2, unM, op1, re, varM, movM, vfzM, cstM, nilM, consM, tupM, lstM, items, vals, val, deref, boolM, asB, andB, orB, notB, andV, orV, notV, ifM, chainM, asI, fzM, fz1, fnM, fin, Mx.finish, fz_non, fz_bl, fz_int, fz_str, fz_tup, fz_ptp, fz_lst, fz_scr, fz_dct, fz_obj, fz_own, fz_odct, fz_oobj, D.frz, nameG, tupG, consG, nilG, frzS, yesB, there, modS, unpI, tupI, callM, call1, take0, argK, grab, Mx.putB, Mx.pick, makeM, make1, methM, meth1, appN, starM, star1, fA, fB, fC]
    simp only [seqIt, this, bindR, seq_own]
  have l3 : lcL [5] (nameG 5) yesB (methM ⟨2, 2, [false, false], [0, 1], []⟩ "Costs" "going" F5 (varM 3) (consM (opM ixD (varM 0) (opM subD (varM 5) (cstM (.int 1)))) nilM)) (is.map IN) [some A, some B, some C, some K, none, none, none] [] = .ok (.own (is.map fun i => IN (ownOf own pl (lineT old i)).1)) [some A, some B, some C, some K, none, none, none] := by
    refine lcL_all rfl IN _ is (fun i hi => ⟨_, IN (ownOf own pl (lineT old i)).1, [some A, some B, some C, some K, none, some (.int i), none], rfl, ?_, rfl, rfl⟩) l5
    obtain ⟨a, b⟩ := e5 i hi
    have x1 : opM ixD (varM 0) (opM subD (varM 5) (cstM (.int 1))) [some A, some B, some C, some K, none, some (.int i), none] = .ok (.str (lineT old i)) [some A, some B, some C, some K, none, some (.int i), none] := op_ok (x := .rf 0) (y := .int (i - 1)) rfl rfl rfl rfl a
    refine meth_ok (x := .rf 3) (ns := ["plain_costs", "own_costs"]) (xs := xs) rfl (by rw [← hK]; rfl) (by decide) (cons_ok x1 rfl) (bs := [.v K, .v (.str (lineT old i))]) (ds := [K, .str (lineT old i)]) (e3 := [some A, some B, some C, some K, none, some (.int i), none]) ?_ b rfl
    simp [take0, seqS, setS, set1, putV, bindS, bindR, ifS, retS, ret1, retN, dropS, asgS, asg1, par2S, par2, par3S, par3, skipS, opM, op2, unM, op1, re, varM, movM, vfzM, cstM, nilM, consM, tupM, lstM, items, vals, val, deref, boolM, asB, andB, orB, notB, andV, orV, notV, ifM, chainM, asI, fzM, fz1, fnM, fin, Mx.finish, fz_non, fz_bl, fz_int, fz_str, fz_tup, fz_ptp, fz_lst, fz_scr, fz_dct, fz_obj, fz_own, fz_odct, fz_oobj, D.frz, nameG, tupG, consG, nilG, frzS, yesB, there, modS, unpI, tupI, callM, call1, take0, argK, grab, Mx.putB, Mx.pick, makeM, make1, methM, meth1, appN, starM, star1, fD]
  have R3 : setS 4 (fzM (unM sumD (lcM 7 [5] (seqIt (callM ⟨3, 3, [false, false, false], [0, 1, 2], []⟩ F3 (consM (varM 0) (consM (varM 1) (consM (varM 2) nilM))))) (nameG 5) yesB (methM ⟨2, 2, [false, false], [0, 1], []⟩ "Costs" "going" F5 (varM 3) (consM (opM ixD (varM 0) (opM subD (varM 5) (cstM (.int 1)))) nilM))))) [some A, some B, some C, some K, none, none, none] = .nx [some A, some B, some C, some K, some (.int (is.map fun i => (ownOf own pl (lineT old i)).1).sum), none, none] :=
    set_ok (fz_ok (un_ok (lc_ok c3 rfl rfl l3) rfl s5) rfl) rfl (by simp) rfl
  have c4 : seqIt (callM ⟨3, 3, [false, false, false], [0, 1, 2], []⟩ F4 (consM (varM 0) (consM (varM 1) (consM (varM 2) nilM)))) [some A, some B, some C, some K, some (.int (is.map fun i => (ownOf own pl (lineT old i)).1).sum), none, none] = .ok (js.map IN) [some A, some B, some C, some K, some (.int (is.map fun i => (ownOf own pl (lineT old i)).1).sum), none, none] := by
    have : callM ⟨3, 3, [false, false, false], [0, 1, 2], []⟩ F4 (consM (varM 0) (consM (varM 1) (consM (varM 2) nilM))) [some A, some B, some C, some K, some (.int (is.map fun i => (ownOf own pl (lineT old i)).1).sum), none, none] = .ok (.own (js.map IN)) [some A, some B, some C, some K, some (.int (is.map fun i => (ownOf own pl (lineT old i)).1).sum), none, none] := by
      refine call_ok (bs := [.v A, .v B, .v C]) (ds := [A, B, C]) (e2 := [some A, some B, some C, some K, some (.int (is.map fun i => (ownOf own pl (lineT old i)).1).sum), none, none]) rfl ?_ e4 rfl
      simp [take0, seqS, setS, set1, putV, bindS, bindR, ifS, retS, ret1, retN, dropS, asgS, asg1, par2S, par2, par3S, par3, skipS, opM, op2, unM, op1, re, varM, movM, vfzM, cstM, nilM, consM, tupM, lstM, items, vals, val, deref, boolM, asB, andB, orB, notB, andV, orV, notV, ifM, chainM, asI, fzM, fz1, fnM, fin, Mx.finish, fz_non, fz_bl, fz_int, fz_str, fz_tup, fz_ptp, fz_lst, fz_scr, fz_dct, fz_obj, fz_own, fz_odct, fz_oobj, D.frz, nameG, tupG, consG, nilG, frzS, yesB, there, modS, unpI, tupI, callM, call1, take0, argK, grab, Mx.putB, Mx.pick, makeM, make1, methM, meth1, appN, starM, star1, fA, fB, fC]
    simp only [seqIt, this, bindR, seq_own]
  generalize (is.map fun i => (ownOf own pl (lineT old i)).1).sum = s at *
  have l4 : lcL [6] (nameG 6) yesB (methM ⟨2, 2, [false, false], [0, 1], []⟩ "Costs" "coming" F6 (varM 3) (consM (opM ixD (varM 1) (opM subD (varM 6) (cstM (.int 1)))) nilM)) (js.map IN) [some A, some B, some C, some K, some (.int s), none, none] [] = .ok (.own (js.map fun i => IN (ownOf own pl (lineT new i)).2)) [some A, some B, some C, some K, some (.int s), none, none] := by
    refine lcL_all rfl IN _ js (fun i hi => ⟨_, IN (ownOf own pl (lineT new i)).2, [some A, some B, some C, some K, some (.int s), none, some (.int i)], rfl, ?_, rfl, rfl⟩) l6
    obtain ⟨a, b⟩ := e6 i hi
    have x1 : opM ixD (varM 1) (opM subD (varM 6) (cstM (.int 1))) [some A, some B, some C, some K, some (.int s), none, some (.int i)] = .ok (.str (lineT new i)) [some A, some B, some C, some K, some (.int s), none, some (.int i)] := op_ok (x := .rf 1) (y := .int (i - 1)) rfl rfl rfl rfl a
    refine meth_ok (x := .rf 3) (ns := ["plain_costs", "own_costs"]) (xs := xs) rfl (by rw [← hK]; rfl) (by decide) (cons_ok x1 rfl) (bs := [.v K, .v (.str (lineT new i))]) (ds := [K, .str (lineT new i)]) (e3 := [some A, some B, some C, some K, some (.int s), none, some (.int i)]) ?_ b rfl
    simp [take0, seqS, setS, set1, putV, bindS, bindR, ifS, retS, ret1, retN, dropS, asgS, asg1, par2S, par2, par3S, par3, skipS, opM, op2, unM, op1, re, varM, movM, vfzM, cstM, nilM, consM, tupM, lstM, items, vals, val, deref, boolM, asB, andB, orB, notB, andV, orV, notV, ifM, chainM, asI, fzM, fz1, fnM, fin, Mx.finish, fz_non, fz_bl, fz_int, fz_str, fz_tup, fz_ptp, fz_lst, fz_scr, fz_dct, fz_obj, fz_own, fz_odct, fz_oobj, D.frz, nameG, tupG, consG, nilG, frzS, yesB, there, modS, unpI, tupI, callM, call1, take0, argK, grab, Mx.putB, Mx.pick, makeM, make1, methM, meth1, appN, starM, star1, fD]
  refine fn_rt rfl (seq_nx R1 (seq_nx R2 (seq_nx R3 (ret_ok (op_ok (x := .rf 4) rfl (un_ok (lc_ok c4 rfl rfl l4) rfl s6) rfl rfl rfl) rfl)))) ?_
  simp [seqS, setS, set1, putV, bindS, bindR, ifS, retS, ret1, retN, dropS, asgS, asg1, par2S, par2, par3S, par3, skipS, opM, op2, unM, op1, re, varM, movM, vfzM, cstM, nilM, consM, tupM, lstM, items, vals, val, deref, boolM, asB, andB, orB, notB, andV, orV, notV, ifM, chainM, asI, fzM, fz1, fnM, fin, Mx.finish, fz_non, fz_bl, fz_int, fz_str, fz_tup, fz_ptp, fz_lst, fz_scr, fz_dct, fz_obj, fz_own, fz_odct, fz_oobj, D.frz, nameG, tupG, consG, nilG, frzS, yesB, there, modS, unpI, tupI, fA, fB, fC, fD]
end Lw
set_option Elab.async false
set_option linter.all false
set_option maxRecDepth 100000
set_option maxHeartbeats 1000000
namespace Lw
open PySem L2 Mx
def okC (p : Int × Int) : Prop := (1 ≤ p.1 ∧ p.1 ≤ 999999) ∧ 1 ≤ p.2 ∧ p.2 ≤ 999999
def okO (own : List (Str × (Int × Int))) : Prop := (own.map (·.1)).Nodup ∧ own.length ≤ 60 ∧ ∀ p ∈ own, okS p.1 ∧ okC p.2
theorem is_cost_ok {i : Int} (h : 1 ≤ i ∧ i ≤ 999999) : f_is_cost [.int i] = .ok (.bl true) [.int i] := by
  simp [f_is_cost, b_is_cost, seqS, setS, set1, putV, bindS, bindR, ifS, retS, ret1, retN, dropS, asgS, asg1, par2S, par2, par3S, par3, skipS, opM, op2, unM, op1, re, varM, movM, vfzM, cstM, nilM, consM, tupM, lstM, items, vals, val, deref, boolM, asB, andB, orB, notB, andV, orV, notV, ifM, chainM, asI, fzM, fz1, fnM, fin, Mx.finish, fz_non, fz_bl, fz_int, fz_str, fz_tup, fz_ptp, fz_lst, fz_scr, fz_dct, fz_obj, fz_own, fz_odct, fz_oobj, D.frz, nameG, tupG, consG, nilG, frzS, yesB, there, modS, unpI, tupI, isD, pyT, isOne, Mx.askT, h.1, h.2]
theorem are_own_ok {p : Int × Int} (h : okC p) : f_are_own [PR p] = .ok (.bl true) [PR p] := by
  have e1 := is_cost_ok h.1
  have e2 := is_cost_ok h.2
  simp only [f_are_own, b_are_own]
  generalize f_is_cost = F at *
  have e3 : ∀ i ∈ [p.1, p.2], F [.int i] = .ok (.bl true) [.int i] := by
    intro i hi
    simp only [List.mem_cons, List.not_mem_nil, or_false] at hi
    rcases hi with rfl | rfl
    · exact e1
    · exact e2
  have l1 : lcL [1] (nameG 1) yesB (callM ⟨1, 1, [false], [0], []⟩ F (consM (varM 1) nilM)) ([p.1, p.2].map IN) [some (PR p), none] [] = .ok (.own ([p.1, p.2].map fun _ => D.bl true)) [some (PR p), none] := by
    refine lcL_all rfl IN _ [p.1, p.2] (fun i hi => ⟨_, .bl true, [some (PR p), some (.int i)], rfl, ?_, rfl, rfl⟩) (by simp)
    have := e3 i hi
    simp [seqS, setS, set1, putV, bindS, bindR, ifS, retS, ret1, retN, dropS, asgS, asg1, par2S, par2, par3S, par3, skipS, opM, op2, unM, op1, re, varM, movM, vfzM, cstM, nilM, consM, tupM, lstM, items, vals, val, deref, boolM, asB, andB, orB, notB, andV, orV, notV, ifM, chainM, asI, fzM, fz1, fnM, fin, Mx.finish, fz_non, fz_bl, fz_int, fz_str, fz_tup, fz_ptp, fz_lst, fz_scr, fz_dct, fz_obj, fz_own, fz_odct, fz_oobj, D.frz, nameG, tupG, consG, nilG, frzS, yesB, there, modS, unpI, tupI, callM, call1, take0, argK, grab, Mx.putB, Mx.pick, makeM, make1, methM, meth1, appN, starM, star1, IN, this]
  have l2 : lcM 2 [1] (seqIt (varM 0)) (nameG 1) yesB (callM ⟨1, 1, [false], [0], []⟩ F (consM (varM 1) nilM)) [some (PR p), none] = .ok (.own [.bl true, .bl true]) [some (PR p), none] := lc_ok (ds := [.int p.1, .int p.2]) (e := [some (PR p), none]) rfl rfl rfl l1
  have a1 : boolM (unM (isD ["tuple"]) (varM 0)) [some (PR p), none] = .ok true [some (PR p), none] := rfl
  have a2 : boolM (opM eqD (unM lenD (varM 0)) (cstM (.int 2))) [some (PR p), none] = .ok true [some (PR p), none] := by
    have := eq_int 2 2
    have q : opM eqD (unM lenD (varM 0)) (cstM (.int 2)) [some (PR p), none] = .ok (.bl true) [some (PR p), none] := op_ok (x := .int 2) rfl rfl rfl rfl (by simpa using this)
    simp only [boolM, q, bindR]
    rfl
  have a3 : unM allD (lcM 2 [1] (seqIt (varM 0)) (nameG 1) yesB (callM ⟨1, 1, [false], [0], []⟩ F (consM (varM 1) nilM))) [some (PR p), none] = .ok (.bl true) [some (PR p), none] := un_ok l2 rfl rfl
  refine fn_rt (env := [some (PR p), none]) rfl (ret_ok (x := .bl true) (e := [some (PR p), none]) ?_ rfl) rfl
  simp only [andV, a1, a2, a3, bindR]
theorem keyS_inr (l : List Str) : keyS (l.map fun x => (.inr x : Key)) = some l := by
  induction l with
  | nil => rfl
  | cons a l ih => simp only [List.map_cons, keyS, ih, Option.map_some]
theorem ndK_inr (l : List Str) (h : l.Nodup) : ndK (l.map fun x => (.inr x : Key)) = true := by
  induction l with
  | nil => rfl
  | cons a l ih =>
    rw [List.nodup_cons] at h
    simp only [List.map_cons, ndK, ih h.2, Bool.and_true, List.all_map, List.all_eq_true]
    intro x hx
    simp only [Function.comp, decide_eq_true_eq]
    intro z
    cases z
    exact h.1 hx
theorem getKey_mem {own : List (Str × (Int × Int))} {x : Str} (h : x ∈ own.map (·.1)) (pl : Int × Int) : getKey (own.map fun p => (.inr p.1 : Key)) (own.map fun p => PR p.2) (.inr x) = some (PR (ownOf own pl x)) := by
  induction own with
  | nil => cases h
  | cons p own ih =>
    by_cases q : p.1 = x
    · simp [getKey, ownOf, q]
    · have : x ∈ own.map (·.1) := by
        rcases List.mem_cons.mp h with z | z
        · exact absurd z.symm q
        · exact z
      simpa [getKey, ownOf, q] using ih this
/-- the same costs, the lines in order -/
def inOrder (own : List (Str × (Int × Int))) : List (Str × (Int × Int)) := (srtS (own.map (·.1))).map fun x => (x, ownOf own (1, 1) x)
theorem ownOf_mem {own : List (Str × (Int × Int))} {pl : Int × Int} {x : Str} (h : x ∈ own.map (·.1)) : (x, ownOf own pl x) ∈ own := by
  induction own with
  | nil => cases h
  | cons p own ih =>
    by_cases q : p.1 = x
    · subst q
      simp [ownOf]
    · have : x ∈ own.map (·.1) := by
        rcases List.mem_cons.mp h with z | z
        · exact absurd z.symm q
        · exact z
      simp only [ownOf, if_neg q]
      exact List.mem_cons_of_mem _ (ih this)
theorem ownOf_not {own : List (Str × (Int × Int))} {pl : Int × Int} {x : Str} (h : x ∉ own.map (·.1)) : ownOf own pl x = pl := by
  induction own with
  | nil => rfl
  | cons p own ih =>
    simp only [List.map_cons, List.mem_cons, not_or] at h
    rw [ownOf, if_neg (fun z => h.1 z.symm), ih h.2]
theorem inOrder_keys (own : List (Str × (Int × Int))) : (inOrder own).map (·.1) = srtS (own.map (·.1)) := by simp [inOrder, Function.comp_def]
theorem ownOf_map (l : List Str) (f : Str → Int × Int) (pl : Int × Int) (x : Str) : ownOf (l.map fun x => (x, f x)) pl x = if x ∈ l then f x else pl := by
  induction l with
  | nil => rfl
  | cons a l ih =>
    by_cases q : a = x
    · subst q; simp [ownOf]
    · have : x ≠ a := fun z => q z.symm
      simp [ownOf, q, ih, this]
theorem mem_own_irr {own : List (Str × (Int × Int))} {x : Str} (h : x ∈ own.map (·.1)) (p q : Int × Int) : ownOf own p x = ownOf own q x := by
  induction own with
  | nil => cases h
  | cons a own ih =>
    by_cases z : a.1 = x
    · simp [ownOf, z]
    · simp only [ownOf, if_neg z]
      refine ih ?_
      rcases List.mem_cons.mp h with w | w
      · exact absurd w.symm z
      · exact w
theorem ownOf_inOrder (own : List (Str × (Int × Int))) (pl : Int × Int) (x : Str) : ownOf (inOrder own) pl x = ownOf own pl x := by
  rw [inOrder, ownOf_map]
  have : x ∈ srtS (own.map (·.1)) ↔ x ∈ own.map (·.1) := (srtS_perm _).mem_iff
  by_cases h : x ∈ own.map (·.1)
  · rw [if_pos (this.mpr h)]
    exact mem_own_irr h _ _
  · rw [if_neg (fun z => h (this.mp z)), ownOf_not h]
theorem okO_inOrder {own : List (Str × (Int × Int))} (h : okO own) : okO (inOrder own) := by
  refine ⟨by rw [inOrder_keys]; exact (srtS_perm _).nodup_iff.mpr h.1, ?_, fun p hp => ?_⟩
  · have := (srtS_perm (own.map (·.1))).length_eq
    have := h.2.1
    simp only [inOrder, List.length_map] at *
    omega
  · obtain ⟨x, hx, rfl⟩ := List.mem_map.mp hp
    have m := (srtS_perm _).mem_iff.mp hx
    exact h.2.2 _ (ownOf_mem m)
end Lw
set_option Elab.async false
set_option linter.all false
set_option maxRecDepth 100000
set_option maxHeartbeats 1000000
namespace Lw
open PySem L2 Mx
def KS (own : List (Str × (Int × Int))) : List Key := own.map fun p => .inr p.1
def VS (own : List (Str × (Int × Int))) : List D := own.map fun p => PR p.2
def DC (own : List (Str × (Int × Int))) : D := .dct (KS own) (VS own)
def IT (p : Str × (Int × Int)) : D := .tup [.str p.1, PR p.2]
theorem items_own (own : List (Str × (Int × Int))) : itemsD (KS own) (VS own) = own.map IT := by
  induction own with
  | nil => rfl
  | cons p own ih => simp only [KS, VS, List.map_cons, itemsD, IT] at ih ⊢; rw [ih]; rfl
theorem fz_VS (own : List (Str × (Int × Int))) : fzL (VS own) = true := fzL_map (f := fun p : Str × (Int × Int) => PR p.2) (fun _ => rfl) own
theorem fz_DC (own : List (Str × (Int × Int))) : (DC own).fz = true := by simp only [DC, D.fz, fz_VS]
theorem frz_VS (own : List (Str × (Int × Int))) : frzL (VS own) = VS own := by rw [frzL_eq, VS, List.map_map]; rfl
theorem fr_strs (l : List Str) : frzL (l.map D.str) = l.map D.str := by rw [frzL_eq, List.map_map]; rfl
theorem items_DC {e : Mx.Env} {m : EM} {x : D} {own : List (Str × (Int × Int))} (h : m e = .ok x e) (hv : val e x = some (DC own)) : itemsI m e = .ok (own.map IT) e := by
  simp only [itemsI, h, bindR, items1, hv, DC, items_own]
theorem KS_nd {own : List (Str × (Int × Int))} (h : (own.map (·.1)).Nodup) : ndK (KS own) = true := by
  have := ndK_inr _ h
  rwa [List.map_map] at this
theorem fm_KS {α : Type} (l : List α) (c : α → D) (p : α → Bool) (k : α → Str) (v : α → Int × Int) (f : D → Option (Key × D)) (hf : ∀ a ∈ l, f (c a) = if p a = true then some (.inr (k a), PR (v a)) else none) : ((l.map c).filterMap fun d => (f d).map (·.1)) = KS ((l.filter p).map fun a => (k a, v a)) ∧ ((l.map c).filterMap fun d => (f d).map (·.2)) = VS ((l.filter p).map fun a => (k a, v a)) := by
  induction l with
  | nil => exact ⟨rfl, rfl⟩
  | cons a l ih =>
    obtain ⟨i1, i2⟩ := ih fun x hx => hf x (List.mem_cons_of_mem _ hx)
    have h := hf a (List.mem_cons_self ..)
    by_cases q : p a = true
    · rw [if_pos q] at h
      simp only [List.map_cons, List.filterMap_cons, h, Option.map_some, i1, i2, List.filter_cons, q, if_true, KS, VS]
      exact ⟨trivial, trivial⟩
    · rw [if_neg q] at h
      simp only [List.map_cons, List.filterMap_cons, h, Option.map_none, i1, i2, List.filter_cons, q]
      exact ⟨rfl, rfl⟩
theorem dcL_own {α : Type} {vs : List Nat} {g : GM} {t : BM} {mk mv : EM} {e0 : Mx.Env} (hk : killE e0 vs = e0) (l : List α) (c : α → D) (p : α → Bool) (k : α → Str) (v : α → Int × Int)
    (inj : ∀ a ∈ l, ∀ b ∈ l, c a = c b → p a = p b ∧ k a = k b ∧ v a = v b)
    (hs : ∀ a ∈ l, ∃ e2 e3, g (c a) e0 = some e2 ∧ t e2 = .ok (p a) e3 ∧ ((p a = false ∧ killE e3 vs = e0) ∨ (p a = true ∧ ∃ x y e4 e5, mk e3 = .ok x e4 ∧ (val e4 x).bind keyI = some (.inr (k a)) ∧ mv e4 = .ok y e5 ∧ val e5 y = some (PR (v a)) ∧ killE e5 vs = e0)))
    (nd : (((l.filter p).map k)).Nodup) (hl : l.length ≤ 1000) : dcL vs g t mk mv (l.map c) e0 [] [] = .ok (.odct (KS ((l.filter p).map fun a => (k a, v a))) (VS ((l.filter p).map fun a => (k a, v a)))) e0 := by
  classical
  let f : D → Option (Key × D) := fun d => if h : ∃ a, a ∈ l ∧ c a = d then (if p h.choose = true then some (.inr (k h.choose), PR (v h.choose)) else none) else none
  have hf : ∀ a ∈ l, f (c a) = if p a = true then some (.inr (k a), PR (v a)) else none := by
    intro a ha
    have h : ∃ b, b ∈ l ∧ c b = c a := ⟨a, ha, rfl⟩
    obtain ⟨q1, q2, q3⟩ := inj _ h.choose_spec.1 _ ha h.choose_spec.2
    simp only [f, dif_pos h, q1, q2, q3]
  obtain ⟨m1, m2⟩ := fm_KS l c p k v f hf
  refine dcL_pure hk f (l.map c) [] [] _ _ (fun d hd => ?_) (by rw [List.nil_append]; exact m1) (by rw [List.nil_append]; exact m2) rfl (KS_nd (by rw [List.map_map]; exact nd)) (by have := List.length_filter_le p l; simp [KS]; omega)
  obtain ⟨a, ha, rfl⟩ := List.mem_map.mp hd
  obtain ⟨e2, e3, h1, h2, h3⟩ := hs a ha
  refine ⟨e2, h1, ?_⟩
  rcases h3 with ⟨h3, h4⟩ | ⟨h3, x, y, e4, e5, h4, h5, h6, h7, h8⟩
  · refine .inl ⟨by rw [hf a ha, h3]; rfl, e3, by rw [h2, h3], h4⟩
  · refine .inr ⟨_, _, x, y, e3, e4, e5, by rw [hf a ha, h3]; rfl, by rw [h2, h3], h4, h5, h6, h7, h8⟩
theorem IT_inj {a b : Str × (Int × Int)} (h : IT a = IT b) : a = b := by
  obtain ⟨x, i, j⟩ := a
  obtain ⟨y, k, l⟩ := b
  simp only [IT, PR, D.tup.injEq, List.cons.injEq, D.str.injEq, D.int.injEq, and_true] at h
  obtain ⟨rfl, rfl, rfl⟩ := h
  rfl
theorem own_costs_ok {own : List (Str × (Int × Int))} (h : okO own) : f_own_costs [DC own] = .ok (.odct (KS (inOrder own)) (VS (inOrder own))) [DC own] := by
  have fD := fz_DC own
  have n0 : isND (DC own) = some (.bl false) := rfl
  have n1 : isD ["dict"] (DC own) = some (.bl true) := rfl
  have so : sortedA (DC own) = some (.own ((srtS (own.map (·.1))).map .str)) := by
    have := keyS_inr (own.map (·.1))
    rw [List.map_map] at this
    have q : keyS (KS own) = some (own.map (·.1)) := this
    have hl : (own.map (·.1)).length < 64 := by have := h.2.1; simp; omega
    simp only [sortedA, sortedD, DC, dictI, Option.bind_some, q, hl, if_true]
  have gk : ∀ x ∈ srtS (own.map (·.1)), ixDk (DC own) (.str x) = some (PR (ownOf own (1, 1) x)) := fun x hx => by
    have m := (srtS_perm _).mem_iff.mp hx
    exact getKey_mem m (1, 1)
  have its : ∀ x y, itemsI (varM 0) [some (DC own), x, y] = .ok (own.map IT) [some (DC own), x, y] := fun x y => items_DC (x := .rf 0) rfl (by simp [val, fD])
  have nd : (srtS (own.map (·.1))).Nodup := (srtS_perm _).nodup_iff.mpr h.1
  have ln : (srtS (own.map (·.1))).length ≤ 1000 := by have := (srtS_perm (own.map (·.1))).length_eq; have := h.2.1; simp only [List.length_map] at *; omega
  generalize DC own = A at *
  have e1 : ∀ p ∈ own, f_is_line [.str p.1] = .ok (.bl true) [.str p.1] := fun p hp => is_line_ok (h.2.2 p hp).1
  have e2 : ∀ p ∈ own, f_are_own [PR p.2] = .ok (.bl true) [PR p.2] := fun p hp => are_own_ok (h.2.2 p hp).2
  simp only [f_own_costs, b_own_costs]
  generalize f_is_line = F1 at *
  generalize f_are_own = F2 at *
  have R0 : boolM (unM isND (varM 0)) [some A, none, none] = .ok false [some A, none, none] := by
    simp [seqS, setS, set1, putV, bindS, bindR, ifS, retS, ret1, retN, dropS, asgS, asg1, par2S, par2, par3S, par3, skipS, opM, op2, unM, op1, re, varM, movM, vfzM, cstM, nilM, consM, tupM, lstM, items, vals, val, deref, boolM, asB, andB, orB, notB, andV, orV, notV, ifM, chainM, asI, fzM, fz1, fnM, fin, Mx.finish, fz_non, fz_bl, fz_int, fz_str, fz_tup, fz_ptp, fz_lst, fz_scr, fz_dct, fz_obj, fz_own, fz_odct, fz_oobj, D.frz, nameG, tupG, consG, nilG, frzS, yesB, there, modS, unpI, tupI, n0]
  have R1 : notB (boolM (unM (isD ["dict"]) (varM 0))) [some A, none, none] = .ok false [some A, none, none] := by
    simp [seqS, setS, set1, putV, bindS, bindR, ifS, retS, ret1, retN, dropS, asgS, asg1, par2S, par2, par3S, par3, skipS, opM, op2, unM, op1, re, varM, movM, vfzM, cstM, nilM, consM, tupM, lstM, items, vals, val, deref, boolM, asB, andB, orB, notB, andV, orV, notV, ifM, chainM, asI, fzM, fz1, fnM, fin, Mx.finish, fz_non, fz_bl, fz_int, fz_str, fz_tup, fz_ptp, fz_lst, fz_scr, fz_dct, fz_obj, fz_own, fz_odct, fz_oobj, D.frz, nameG, tupG, consG, nilG, frzS, yesB, there, modS, unpI, tupI, n1]
  obtain ⟨e', R2, x, y, rfl⟩ := forL_inv (g := tupG 2 (consG (nameG 1) (consG (nameG 2) nilG))) (b := seqS (ifS (notB (boolM (callM ⟨1, 1, [false], [0], []⟩ F1 (consM (varM 1) nilM)))) badS skipS) (ifS (notB (boolM (callM ⟨1, 1, [false], [0], []⟩ F2 (consM (varM 2) nilM)))) badS skipS)) (fun e => ∃ x y, e = [some A, x, y]) (own.map IT) [some A, none, none] (fun d hd e he => by
    obtain ⟨p, hp, rfl⟩ := List.mem_map.mp hd
    obtain ⟨x, y, rfl⟩ := he
    refine ⟨[some A, some (.str p.1), some (PR p.2)], [some A, some (.str p.1), some (PR p.2)], rfl, .inl ?_, _, _, rfl⟩
    have q1 := e1 p hp
    have q2 := e2 p hp
    have q3 := fz_PR p.2
    generalize PR p.2 = P at *
    simp [seqS, setS, set1, putV, bindS, bindR, ifS, retS, ret1, retN, dropS, asgS, asg1, par2S, par2, par3S, par3, skipS, opM, op2, unM, op1, re, varM, movM, vfzM, cstM, nilM, consM, tupM, lstM, items, vals, val, deref, boolM, asB, andB, orB, notB, andV, orV, notV, ifM, chainM, asI, fzM, fz1, fnM, fin, Mx.finish, fz_non, fz_bl, fz_int, fz_str, fz_tup, fz_ptp, fz_lst, fz_scr, fz_dct, fz_obj, fz_own, fz_odct, fz_oobj, D.frz, nameG, tupG, consG, nilG, frzS, yesB, there, modS, unpI, tupI, callM, call1, take0, argK, grab, Mx.putB, Mx.pick, makeM, make1, methM, meth1, appN, starM, star1, q1, q2, q3]) ⟨_, _, rfl⟩
  have R3 : dcM 3 [1] (seqIt (unM sortedA (varM 0))) (nameG 1) yesB (varM 1) (opM ixDk (varM 0) (varM 1)) [some A, x, y] = .ok (.odct (KS (inOrder own)) (VS (inOrder own))) [some A, none, y] := by
    have s1 : seqIt (unM sortedA (varM 0)) [some A, x, y] = .ok ((srtS (own.map (·.1))).map .str) [some A, x, y] := by
      have : unM sortedA (varM 0) [some A, x, y] = .ok (.own ((srtS (own.map (·.1))).map .str)) [some A, x, y] := un_ok rfl rfl so
      simp only [seqIt, this, bindR]
      simp [seq1, seqD, val, D.frz, fr_strs]
    have fl : (srtS (own.map (·.1))).filter (fun _ => true) = srtS (own.map (·.1)) := List.filter_eq_self.mpr fun _ _ => rfl
    have d1 := dcL_own (vs := [1]) (g := nameG 1) (t := yesB) (mk := varM 1) (mv := opM ixDk (varM 0) (varM 1)) (e0 := [some A, none, y]) rfl (srtS (own.map (·.1))) D.str (fun _ => true) id (fun x => ownOf own (1, 1) x)
      (fun a _ b _ q => by cases q; exact ⟨rfl, rfl, rfl⟩)
      (fun a ha => by
        refine ⟨_, [some A, some (.str a), y], rfl, rfl, .inr ⟨rfl, .rf 1, PR (ownOf own (1, 1) a), [some A, some (.str a), y], [some A, some (.str a), y], rfl, rfl, ?_, rfl, rfl⟩⟩
        exact op_ok (x := .rf 0) (y := .rf 1) rfl rfl rfl rfl (gk a ha))
      (by rw [fl, List.map_id]; exact nd) ln
    rw [fl] at d1
    simp only [dcM, s1, bindR, List.length_cons, List.length_nil, if_true]
    exact d1
  refine fn_rt (env := [some A, none, none]) rfl (seq_nx (if_ff R0 rfl) (seq_nx (if_ff R1 rfl) (seq_nx (for_ok (its _ _) R2) (ret_ok R3 rfl)))) ?_
  simp [seqS, setS, set1, putV, bindS, bindR, ifS, retS, ret1, retN, dropS, asgS, asg1, par2S, par2, par3S, par3, skipS, opM, op2, unM, op1, re, varM, movM, vfzM, cstM, nilM, consM, tupM, lstM, items, vals, val, deref, boolM, asB, andB, orB, notB, andV, orV, notV, ifM, chainM, asI, fzM, fz1, fnM, fin, Mx.finish, fz_non, fz_bl, fz_int, fz_str, fz_tup, fz_ptp, fz_lst, fz_scr, fz_dct, fz_obj, fz_own, fz_odct, fz_oobj, D.frz, nameG, tupG, consG, nilG, frzS, yesB, there, modS, unpI, tupI, fD]
end Lw
set_option Elab.async false
set_option linter.all false
set_option maxRecDepth 100000
set_option maxHeartbeats 1000000
namespace Lw
open PySem L2 Mx
/-- what a Costs keeps: the costs of their own that are not those of all lines, in order -/
def kept (own : List (Str × (Int × Int))) (pl : Int × Int) : List (Str × (Int × Int)) := (inOrder own).filter fun p => decide (p.2 ≠ pl)
theorem kept_ok {own : List (Str × (Int × Int))} (h : okO own) (pl : Int × Int) : okO (kept own pl) := by
  obtain ⟨h1, h2, h3⟩ := okO_inOrder h
  refine ⟨(List.Sublist.map _ (List.filter_sublist)).nodup h1, ?_, fun p hp => h3 p (List.mem_filter.mp hp).1⟩
  have := List.length_filter_le (fun p : Str × (Int × Int) => decide (p.2 ≠ pl)) (inOrder own)
  simp only [kept]
  omega
theorem ownOf_filter (own : List (Str × (Int × Int))) (pl : Int × Int) (x : Str) (nd : (own.map (·.1)).Nodup) : ownOf (own.filter fun p => decide (p.2 ≠ pl)) pl x = ownOf own pl x := by
  induction own with
  | nil => rfl
  | cons p own ih =>
    rw [List.map_cons, List.nodup_cons] at nd
    by_cases q : p.2 = pl
    · rw [List.filter_cons_of_neg (by simp [q]), ih nd.2]
      by_cases z : p.1 = x
      · subst z
        rw [ownOf_not nd.1]
        simp [ownOf, q]
      · simp [ownOf, z]
    · rw [List.filter_cons_of_pos (by simp [q])]
      by_cases z : p.1 = x
      · simp [ownOf, z]
      · simp only [ownOf, if_neg z, ih nd.2]
theorem ownOf_kept {own : List (Str × (Int × Int))} (h : okO own) (pl : Int × Int) (x : Str) : ownOf (kept own pl) pl x = ownOf own pl x := by
  rw [kept, ownOf_filter _ _ _ (okO_inOrder h).1, ownOf_inOrder]
def OC (pl : Int × Int) (own : List (Str × (Int × Int))) : D := .oobj "Costs" ["plain_costs", "own_costs"] [PR pl, DC own]
theorem OC_frz (pl : Int × Int) (own : List (Str × (Int × Int))) : (OC pl own).frz = CO pl own := rfl
theorem ne_prs (p q : Int × Int) : neD (PR p) (PR q) = some (.bl (decide (p ≠ q))) := ne_pair p.1 p.2 q.1 q.2
theorem init_ok {own : List (Str × (Int × Int))} {pl : Int × Int} (h : okO own) (hp : okC pl) : f_CostsD_initD [.oobj "Costs" [] [], .int pl.1, .int pl.2, DC own] = .ok .non [OC pl (kept own pl), .int pl.1, .int pl.2, DC own] := by
  have c1 := is_cost_ok hp.1
  have c2 := is_cost_ok hp.2
  have oc := own_costs_ok h
  have fD := fz_DC own
  have fK := frz_VS (inOrder own)
  have fV := fz_VS (kept own pl)
  have nd := (okO_inOrder h).1
  have ln := (okO_inOrder h).2.1
  generalize DC own = A at *
  simp only [f_CostsD_initD, b_CostsD_initD]
  generalize f_is_cost = F1 at *
  generalize f_own_costs = F2 at *
  generalize hI : (.int pl.1 : D) = I at *
  generalize hJ : (.int pl.2 : D) = J at *
  have fI : I.fz = true := by rw [← hI]; rfl
  have fJ : J.fz = true := by rw [← hJ]; rfl
  have R0 : notB (boolM (callM ⟨1, 1, [false], [0], []⟩ F1 (consM (varM 1) nilM))) [some (.oobj "Costs" [] []), some I, some J, some A, none, none] = .ok false [some (.oobj "Costs" [] []), some I, some J, some A, none, none] := by
    simp [seqS, setS, set1, putV, bindS, bindR, ifS, retS, ret1, retN, dropS, asgS, asg1, par2S, par2, par3S, par3, skipS, opM, op2, unM, op1, re, varM, movM, vfzM, cstM, nilM, consM, tupM, lstM, items, vals, val, deref, boolM, asB, andB, orB, notB, andV, orV, notV, ifM, chainM, asI, fzM, fz1, fnM, fin, Mx.finish, fz_non, fz_bl, fz_int, fz_str, fz_tup, fz_ptp, fz_lst, fz_scr, fz_dct, fz_obj, fz_own, fz_odct, fz_oobj, D.frz, nameG, tupG, consG, nilG, frzS, yesB, there, modS, unpI, tupI, callM, call1, take0, argK, grab, Mx.putB, Mx.pick, makeM, make1, methM, meth1, appN, starM, star1, c1, fI]
  have R1 : notB (boolM (callM ⟨1, 1, [false], [0], []⟩ F1 (consM (varM 2) nilM))) [some (.oobj "Costs" [] []), some I, some J, some A, none, none] = .ok false [some (.oobj "Costs" [] []), some I, some J, some A, none, none] := by
    simp [seqS, setS, set1, putV, bindS, bindR, ifS, retS, ret1, retN, dropS, asgS, asg1, par2S, par2, par3S, par3, skipS, opM, op2, unM, op1, re, varM, movM, vfzM, cstM, nilM, consM, tupM, lstM, items, vals, val, deref, boolM, asB, andB, orB, notB, andV, orV, notV, ifM, chainM, asI, fzM, fz1, fnM, fin, Mx.finish, fz_non, fz_bl, fz_int, fz_str, fz_tup, fz_ptp, fz_lst, fz_scr, fz_dct, fz_obj, fz_own, fz_odct, fz_oobj, D.frz, nameG, tupG, consG, nilG, frzS, yesB, there, modS, unpI, tupI, callM, call1, take0, argK, grab, Mx.putB, Mx.pick, makeM, make1, methM, meth1, appN, starM, star1, c2, fJ]
  have R2 : fldS 0 "Costs" "plain_costs" (tupM (consM (varM 1) (consM (varM 2) nilM))) [some (.oobj "Costs" [] []), some I, some J, some A, none, none] = .nx [some (.oobj "Costs" ["plain_costs"] [PR pl]), some I, some J, some A, none, none] := by
    subst hI hJ
    rfl
  generalize hO : D.oobj "Costs" ["plain_costs"] [PR pl] = O at *
  have fO : fldD "Costs" "plain_costs" O = some (PR pl) := by rw [← hO]; rfl
  have R3 : itemsI (callM ⟨1, 1, [false], [0], []⟩ F2 (consM (varM 3) nilM)) [some O, some I, some J, some A, none, none] = .ok ((inOrder own).map IT) [some O, some I, some J, some A, none, none] := by
    have : callM ⟨1, 1, [false], [0], []⟩ F2 (consM (varM 3) nilM) [some O, some I, some J, some A, none, none] = .ok (.odct (KS (inOrder own)) (VS (inOrder own))) [some O, some I, some J, some A, none, none] := by
      refine call_ok (bs := [.v A]) (ds := [A]) (e2 := [some O, some I, some J, some A, none, none]) rfl ?_ oc rfl
      simp [take0, seqS, setS, set1, putV, bindS, bindR, ifS, retS, ret1, retN, dropS, asgS, asg1, par2S, par2, par3S, par3, skipS, opM, op2, unM, op1, re, varM, movM, vfzM, cstM, nilM, consM, tupM, lstM, items, vals, val, deref, boolM, asB, andB, orB, notB, andV, orV, notV, ifM, chainM, asI, fzM, fz1, fnM, fin, Mx.finish, fz_non, fz_bl, fz_int, fz_str, fz_tup, fz_ptp, fz_lst, fz_scr, fz_dct, fz_obj, fz_own, fz_odct, fz_oobj, D.frz, nameG, tupG, consG, nilG, frzS, yesB, there, modS, unpI, tupI, callM, call1, take0, argK, grab, Mx.putB, Mx.pick, makeM, make1, methM, meth1, appN, starM, star1, fD]
    exact items_DC this (by simp [val, D.frz, fK, DC])
  have R4 : dcM 6 [4, 5] (itemsI (callM ⟨1, 1, [false], [0], []⟩ F2 (consM (varM 3) nilM))) (tupG 2 (consG (nameG 4) (consG (nameG 5) nilG))) (boolM (opM neD (varM 5) (unM (fldD "Costs" "plain_costs") (varM 0)))) (varM 4) (varM 5) [some O, some I, some J, some A, none, none] = .ok (.odct (KS (kept own pl)) (VS (kept own pl))) [some O, some I, some J, some A, none, none] := by
    have d1 := dcL_own (vs := [4, 5]) (g := tupG 2 (consG (nameG 4) (consG (nameG 5) nilG))) (t := boolM (opM neD (varM 5) (unM (fldD "Costs" "plain_costs") (varM 0)))) (mk := varM 4) (mv := varM 5) (e0 := [some O, some I, some J, some A, none, none]) rfl (inOrder own) IT (fun p => decide (p.2 ≠ pl)) (·.1) (·.2)
      (fun a _ b _ q => by cases IT_inj q; exact ⟨rfl, rfl, rfl⟩)
      (fun a ha => by
        have t1 : boolM (opM neD (varM 5) (unM (fldD "Costs" "plain_costs") (varM 0))) [some O, some I, some J, some A, some (.str a.1), some (PR a.2)] = .ok (decide (a.2 ≠ pl)) [some O, some I, some J, some A, some (.str a.1), some (PR a.2)] := by
          have q2 : unM (fldD "Costs" "plain_costs") (varM 0) [some O, some I, some J, some A, some (.str a.1), some (PR a.2)] = .ok (PR pl) [some O, some I, some J, some A, some (.str a.1), some (PR a.2)] := un_ok rfl rfl fO
          have q : opM neD (varM 5) (unM (fldD "Costs" "plain_costs") (varM 0)) [some O, some I, some J, some A, some (.str a.1), some (PR a.2)] = .ok (.bl (decide (a.2 ≠ pl))) [some O, some I, some J, some A, some (.str a.1), some (PR a.2)] := op_ok (x := .rf 5) rfl q2 rfl rfl (ne_prs a.2 pl)
          simp only [boolM, q, bindR]
          rfl
        refine ⟨_, _, rfl, t1, ?_⟩
        cases hb : decide (a.2 ≠ pl) with
        | false => exact .inl ⟨rfl, rfl⟩
        | true => exact .inr ⟨rfl, .rf 4, .rf 5, _, _, rfl, rfl, rfl, rfl, rfl⟩)
      ((List.Sublist.map _ (List.filter_sublist)).nodup nd) (by omega)
    simp only [dcM, R3, bindR, List.length_cons, List.length_nil, if_true]
    have e : ((inOrder own).filter fun p => decide (p.2 ≠ pl)).map (fun a => (a.1, a.2)) = kept own pl := by simp [kept]
    rw [e] at d1
    exact d1
  have R5 : fldS 0 "Costs" "own_costs" (dcM 6 [4, 5] (itemsI (callM ⟨1, 1, [false], [0], []⟩ F2 (consM (varM 3) nilM))) (tupG 2 (consG (nameG 4) (consG (nameG 5) nilG))) (boolM (opM neD (varM 5) (unM (fldD "Costs" "plain_costs") (varM 0)))) (varM 4) (varM 5)) [some O, some I, some J, some A, none, none] = .nx [some (OC pl (kept own pl)), some I, some J, some A, none, none] := by
    have v : val [some O, some I, some J, some A, none, none] (.odct (KS (kept own pl)) (VS (kept own pl))) = some (DC (kept own pl)) := by simp [val, D.frz, frz_VS, DC]
    simp only [fldS, R4, bindS, v]
    rw [← hO]
    rfl
  refine fn_nx (env := [some (.oobj "Costs" [] []), some I, some J, some A, none, none]) rfl (seq_nx (if_ff R0 rfl) (seq_nx (if_ff R1 rfl) (seq_nx R2 R5))) ?_
  simp [seqS, setS, set1, putV, bindS, bindR, ifS, retS, ret1, retN, dropS, asgS, asg1, par2S, par2, par3S, par3, skipS, opM, op2, unM, op1, re, varM, movM, vfzM, cstM, nilM, consM, tupM, lstM, items, vals, val, deref, boolM, asB, andB, orB, notB, andV, orV, notV, ifM, chainM, asI, fzM, fz1, fnM, fin, Mx.finish, fz_non, fz_bl, fz_int, fz_str, fz_tup, fz_ptp, fz_lst, fz_scr, fz_dct, fz_obj, fz_own, fz_odct, fz_oobj, D.frz, nameG, tupG, consG, nilG, frzS, yesB, there, modS, unpI, tupI, fI, fJ, fD]
end Lw
set_option Elab.async false
set_option linter.all false
set_option maxRecDepth 100000
set_option maxHeartbeats 1000000
namespace Lw
open PySem L2 Mx
theorem make_ok {g : Sg} {c : Str} {f : FM} {a : AM} {env e e2 e3 : Mx.Env} {ts ds ds' : List D} {bs : List Ar} {r : D} (ha : a env = .ok ts e) (hp : take0 g ts e = some (bs, ds, e2)) (hf : f (.oobj c [] [] :: ds) = .ok .non (r :: ds')) (hb : Mx.putB bs ds' e2 = some e3) : makeM g c f a env = .ok r e3 := by
  simp only [makeM, ha, bindR, make1, hp, hf, hb]
end Lw
set_option Elab.async false
set_option linter.all false
set_option maxRecDepth 100000
set_option maxHeartbeats 1000000
namespace Lw
open PySem L2 Mx
def POT (a b : Int) : D := .own [.int a, .int b]
def okPot (a b : Int) : Prop := 0 ≤ a ∧ 0 ≤ b ∧ b < 4294967296
theorem modD_ok {i j : Int} (h : 0 < j) : modD (.int i) (.int j) = some (.int (i % j)) := by simp only [modD, h, if_true]
theorem mulD_ok {i j : Int} (h : mulOk i j = true) : mulD (.int i) (.int j) = some (.int (i * j)) := by simp only [mulD, h, if_true]
theorem fdivD_ok {i j : Int} (h : 0 < j ∧ j < 1073741824) : fdivD (.int i) (.int j) = some (.int (i / j)) := by simp only [fdivD, h, and_self, if_true]
theorem divmodD_ok {i j : Int} (h : 0 < j ∧ j < 1073741824) : divmodD (.int i) (.int j) = some (.tup [.int (i / j), .int (i % j)]) := by simp only [divmodD, h, and_self, if_true]
theorem mulOk_l {i j : Int} (h : 0 ≤ i) (k : i < 18446744073709551616) : mulOk i j = true := by
  simp only [mulOk, Bool.or_eq_true, Bool.and_eq_true, decide_eq_true_eq]
  left
  omega
theorem mulOk_r {i j : Int} (h : 0 ≤ j) (k : j < 18446744073709551616) : mulOk i j = true := by
  simp only [mulOk, Bool.or_eq_true, Bool.and_eq_true, decide_eq_true_eq]
  right
  omega
theorem ix0 (a b : Int) : ixD (POT a b) (.int 0) = some (.int a) := rfl
theorem ix1 (a b : Int) : ixD (POT a b) (.int 1) = some (.int b) := rfl
theorem draw_ok {a b m : Int} (h : okPot a b) (hm : 0 < m ∧ m < 1073741824) : ∃ a' b' r, f__law_draw [POT a b, .int m] = .ok (.int r) [POT a' b', .int m] ∧ okPot a' b' ∧ 0 ≤ r ∧ r < m := by
  obtain ⟨h1, h2, h3⟩ := h
  simp only [f__law_draw, b__law_draw]
  have x0 : opM ixD (varM 0) (cstM (.int 0)) [some (POT a b), some (.int m), none] = .ok (.int a) [some (POT a b), some (.int m), none] := op_ok (x := .rf 0) rfl rfl rfl rfl rfl
  have t0 : boolM (opM (cmpD fun i j => decide (j < i)) (opM ixD (varM 0) (cstM (.int 0))) (cstM (.int 0))) [some (POT a b), some (.int m), none] = .ok (decide (0 < a)) [some (POT a b), some (.int m), none] := by
    have q : opM (cmpD fun i j => decide (j < i)) (opM ixD (varM 0) (cstM (.int 0))) (cstM (.int 0)) [some (POT a b), some (.int m), none] = .ok (.bl (decide (0 < a))) [some (POT a b), some (.int m), none] := op_ok x0 rfl rfl rfl rfl
    simp only [boolM, q, bindR]
    rfl
  by_cases ha : 0 < a
  · rw [decide_eq_true ha] at t0
    refine ⟨a / m, b, a % m, ?_, ⟨Int.ediv_nonneg h1 (by omega), h2, h3⟩, Int.emod_nonneg _ (by omega), Int.emod_lt_of_pos _ hm.1⟩
    have d1 : opM divmodD (opM ixD (varM 0) (cstM (.int 0))) (varM 1) [some (POT a b), some (.int m), none] = .ok (.tup [.int (a / m), .int (a % m)]) [some (POT a b), some (.int m), none] := op_ok x0 rfl rfl rfl (divmodD_ok hm)
    have R : asgS (opM divmodD (opM ixD (varM 0) (cstM (.int 0))) (varM 1)) (tupG 2 (consG (subG 0 (cstM (.int 0))) (consG (nameG 2) nilG))) [some (POT a b), some (.int m), none] = .nx [some (POT (a / m) b), some (.int m), some (.int (a % m))] := by
      simp only [asgS, d1, bindS]
      rfl
    exact fn_rt (env := [some (POT a b), some (.int m), none]) rfl (seq_rt (if_tt t0 (seq_nx R (ret_ok rfl rfl)))) rfl
  · rw [decide_eq_false ha] at t0
    have hz : 0 < (2147483629 : Int) := by decide
    refine ⟨a, (b * 39373 + 12227) % 2147483629, (((b * 39373 + 12227) % 2147483629) * ((b * 39373 + 12227) % 2147483629) % 2147483563 / 13) % m, ?_, ⟨h1, Int.emod_nonneg _ (by decide), by have := Int.emod_lt_of_pos (b * 39373 + 12227) hz; omega⟩, Int.emod_nonneg _ (by omega), Int.emod_lt_of_pos _ hm.1⟩
    have hb : mulOk b 39373 = true := mulOk_l h2 (by omega)
    have b0 : 0 ≤ (b * 39373 + 12227) % 2147483629 := Int.emod_nonneg _ (by decide)
    have b1 : (b * 39373 + 12227) % 2147483629 < 18446744073709551616 := by have := Int.emod_lt_of_pos (b * 39373 + 12227) hz; omega
    have x1 : opM modD (unM intT (opM addD (opM mulD (opM ixD (varM 0) (cstM (.int 1))) (cstM (.int 39373))) (cstM (.int 12227)))) (cstM (.int 2147483629)) [some (POT a b), some (.int m), none] = .ok (.int ((b * 39373 + 12227) % 2147483629)) [some (POT a b), some (.int m), none] :=
      op_ok (un_ok (un_int (op_ok (op_ok (x := .rf 0) rfl rfl rfl rfl (ix1 a b)) rfl rfl rfl (mulD_ok hb)) _) rfl rfl) rfl rfl rfl (modD_ok hz)
    generalize (b * 39373 + 12227) % 2147483629 = c at *
    have R : asgS (opM modD (unM intT (opM addD (opM mulD (opM ixD (varM 0) (cstM (.int 1))) (cstM (.int 39373))) (cstM (.int 12227)))) (cstM (.int 2147483629))) (subG 0 (cstM (.int 1))) [some (POT a b), some (.int m), none] = .nx [some (POT a c), some (.int m), none] := by
      simp only [asgS, x1, bindS]
      rfl
    have x2 : opM ixD (varM 0) (cstM (.int 1)) [some (POT a c), some (.int m), none] = .ok (.int c) [some (POT a c), some (.int m), none] := op_ok (x := .rf 0) rfl rfl rfl rfl (ix1 a c)
    have x3 : opM modD (unM intT (opM fdivD (opM modD (unM intT (opM mulD (opM ixD (varM 0) (cstM (.int 1))) (opM ixD (varM 0) (cstM (.int 1))))) (cstM (.int 2147483563))) (cstM (.int 13)))) (varM 1) [some (POT a c), some (.int m), none] = .ok (.int (c * c % 2147483563 / 13 % m)) [some (POT a c), some (.int m), none] :=
      op_ok (un_ok (op_ok (op_ok (un_ok (op_ok x2 x2 rfl rfl (mulD_ok (mulOk_l b0 b1))) rfl rfl) rfl rfl rfl (modD_ok (by decide))) rfl rfl rfl (fdivD_ok (by decide))) rfl rfl) rfl rfl rfl (modD_ok hm.1)
    exact fn_rt (env := [some (POT a b), some (.int m), none]) rfl (seq_nx (if_ff t0 rfl) (seq_nx R (ret_ok x3 rfl))) rfl
end Lw
set_option Elab.async false
set_option linter.all false
set_option maxRecDepth 100000
set_option maxHeartbeats 1000000
namespace Lw
open PySem L2 Mx
theorem fz_norf {x : D} (h : x.fz = true) : ∀ ro ds e ds', Mx.finish ro ds e = some ds' → fin ro ds x e = .ok x ds' := by
  intro ro ds e ds' q
  cases x <;> first | (simp only [fin, q]; done) | (cases h; done)
theorem at_nat (ds : List D) (r : Int) (h : 0 ≤ r) (k : r < ds.length) : ∃ x ∈ ds, L2.atI ds r = some x := by
  have : r.toNat < ds.length := by omega
  refine ⟨ds[r.toNat], List.getElem_mem this, ?_⟩
  simp only [L2.atI, L2.ixN]
  rw [if_pos h, if_pos k]
  simp [this]
theorem pick_ok {a b : Int} {ds : List D} (h : okPot a b) (hn : 0 < ds.length) (hm : ds.length ≤ 1000000) (hf : fzL ds = true) (hx : ∀ x ∈ ds, x.fz = true) : ∃ a' b' x, f__law_pick [POT a b, .lst ds] = .ok x [POT a' b', .lst ds] ∧ okPot a' b' ∧ x ∈ ds := by
  obtain ⟨a', b', r, h1, h2, h3, h4⟩ := draw_ok (m := (ds.length : Int)) h (by omega)
  obtain ⟨x, m1, m2⟩ := at_nat ds r h3 h4
  refine ⟨a', b', x, ?_, h2, m1⟩
  have fL : (D.lst ds).fz = true := by simp only [D.fz, hf]
  have ll : lenD (.lst ds) = some (.int ds.length) := rfl
  have ix : ixD (.lst ds) (.int r) = some x := by simp [ixD, Mx.seqI, lstI, m2]
  simp only [f__law_pick, b__law_pick]
  generalize f__law_draw = F at *
  generalize (D.lst ds) = L at *
  generalize POT a b = P at *
  generalize POT a' b' = P' at *
  have c1 : callM ⟨2, 2, [true, false], [0, 1], []⟩ F (consM (varM 0) (consM (unM lenD (varM 1)) nilM)) [some P, some L] = .ok (.int r) [some P', some L] := by
    have q : unM lenD (varM 1) [some P, some L] = .ok (.int ds.length) [some P, some L] := un_ok (x := .rf 1) rfl rfl ll
    exact call_ok (cons_ok rfl (cons_ok q rfl)) (bs := [.s 0, .v (.int ds.length)]) (ds := [P, .int ds.length]) (e2 := [none, some L]) rfl h1 rfl
  refine fn_rt (env := [some P, some L]) rfl (ret_ok (x := x) (op_ok (x := .rf 1) (e := [some P, some L]) rfl c1 rfl rfl ix) (d := x) ?_) (fz_norf (hx x m1) _ _ _ _ ?_)
  · have := hx x m1
    cases x <;> first | rfl | (cases this; done)
  · simp [Mx.finish, fL]
end Lw
set_option Elab.async false
set_option linter.all false
set_option maxRecDepth 100000
set_option maxHeartbeats 1000000
namespace Lw
open PySem L2 Mx
def WW : List (List Str) := [["a", "b"], ["a", "b", "c"], ["a", "", " ", "a ", "keep"], ["-", "+a", "ab", "a", "A"]]
theorem okS_of {x : Str} (h : (decide ((10 : Nat) ∉ x.cps.toList) && decide (x.length ≤ 10) && PyData.strOk x) = true) : okS x := by
  simp only [Bool.and_eq_true, decide_eq_true_eq] at h
  exact ⟨h.1.1, h.1.2, h.2⟩
theorem okWW : ∀ ws ∈ WW, 0 < ws.length ∧ ws.length ≤ 5 ∧ ∀ x ∈ ws, okS x := by
  intro ws h
  have e : (WW.all fun ws => decide (0 < ws.length) && decide (ws.length ≤ 5) && ws.all fun x => decide ((10 : Nat) ∉ x.cps.toList) && decide (x.length ≤ 10) && PyData.strOk x) = true := by decide +kernel
  have q := List.all_eq_true.mp e ws h
  simp only [Bool.and_eq_true, decide_eq_true_eq, List.all_eq_true] at q
  exact ⟨q.1.1, q.1.2, fun x hx => okS_of (by have := q.2 x hx; simpa using this)⟩
theorem fz_TXs (l : List (List Str)) : fzL (l.map TX) = true := fzL_map (f := TX) fz_TX l
theorem fr_TXs (l : List (List Str)) : frzL (l.map TX) = l.map TX := by rw [frzL_eq, List.map_map]; rfl
def wordsM : EM := lstM (consM (lstM (consM (cstM (.str "a")) (consM (cstM (.str "b")) nilM))) (consM (lstM (consM (cstM (.str "a")) (consM (cstM (.str "b")) (consM (cstM (.str "c")) nilM)))) (consM (lstM (consM (cstM (.str "a")) (consM (cstM (.str "")) (consM (cstM (.str " ")) (consM (cstM (.str "a ")) (consM (cstM (.str "keep")) nilM)))))) (consM (lstM (consM (cstM (.str "-")) (consM (cstM (.str "+a")) (consM (cstM (.str "ab")) (consM (cstM (.str "a")) (consM (cstM (.str "A")) nilM)))))) nilM))))
theorem words_ok (e : Mx.Env) : wordsM e = .ok (.own (WW.map TX)) e := rfl
theorem text_ok {a b m : Int} (h : okPot a b) (hm : 0 ≤ m ∧ m ≤ 60) : ∃ a' b' xs, f__law_text [POT a b, .int m] = .ok (.own (xs.map .str)) [POT a' b', .int m] ∧ okPot a' b' ∧ okT xs ∧ (xs.length : Int) ≤ m := by
  obtain ⟨a1, b1, w, p1, p2, p3⟩ := pick_ok (ds := WW.map TX) h (by decide) (by decide) (fz_TXs WW) (fun x hx => by
    obtain ⟨ws, _, rfl⟩ := List.mem_map.mp hx
    exact fz_TX ws)
  obtain ⟨ws, hw, rfl⟩ := List.mem_map.mp p3
  obtain ⟨w1, w2, w3⟩ := okWW ws hw
  obtain ⟨a2, b2, r, q1, q2, q3, q4⟩ := draw_ok (m := m + 1) p2 (by omega)
  have pk : ∀ a b, okPot a b → ∃ a' b' x, f__law_pick [POT a b, TX ws] = .ok (.str x) [POT a' b', TX ws] ∧ okPot a' b' ∧ okS x := fun a b h => by
    obtain ⟨a', b', y, r1, r2, r3⟩ := pick_ok (ds := ws.map .str) h (by simpa using w1) (by simp; omega) (fzL_map (f := D.str) (fun _ => rfl) ws) (fun x hx => by
      obtain ⟨z, _, rfl⟩ := List.mem_map.mp hx
      rfl)
    obtain ⟨x, hx, rfl⟩ := List.mem_map.mp r3
    exact ⟨a', b', x, r1, r2, w3 x hx⟩
  have fT := fz_TX ws
  simp only [f__law_text, b__law_text]
  rw [show (lstM (consM (lstM (consM (cstM (.str "a")) (consM (cstM (.str "b")) nilM))) (consM (lstM (consM (cstM (.str "a")) (consM (cstM (.str "b")) (consM (cstM (.str "c")) nilM)))) (consM (lstM (consM (cstM (.str "a")) (consM (cstM (.str "")) (consM (cstM (.str " ")) (consM (cstM (.str "a ")) (consM (cstM (.str "keep")) nilM)))))) (consM (lstM (consM (cstM (.str "-")) (consM (cstM (.str "+a")) (consM (cstM (.str "ab")) (consM (cstM (.str "a")) (consM (cstM (.str "A")) nilM)))))) nilM))))) = wordsM from rfl]
  have hW := words_ok
  generalize wordsM = WM at *
  have fW : D.fz (.lst (WW.map TX)) = true := fz_TXs WW
  have rW : ∀ e : Mx.Env, val e (.own (WW.map TX)) = some (.lst (WW.map TX)) := fun e => by simp only [val, D.frz, fr_TXs]
  generalize f__law_pick = F1 at *
  generalize f__law_draw = F2 at *
  generalize WW.map TX = WD at *
  generalize TX ws = T at *
  have R0 : setS 2 (fzM (callM ⟨2, 2, [true, false], [0, 1], []⟩ F1 (consM (varM 0) (consM WM nilM)))) [some (POT a b), some (.int m), none, none] = .nx [some (POT a1 b1), some (.int m), some T, none] := by
    have c : callM ⟨2, 2, [true, false], [0, 1], []⟩ F1 (consM (varM 0) (consM WM nilM)) [some (POT a b), some (.int m), none, none] = .ok T [some (POT a1 b1), some (.int m), none, none] := by
      refine call_ok (cons_ok rfl (cons_ok (hW _) rfl)) (bs := [.s 0, .v (.lst WD)]) (ds := [POT a b, .lst WD]) (e2 := [none, some (.int m), none, none]) ?_ p1 rfl
      simp only [take0, argK, rW]
      rfl
    have v : ∀ e : Mx.Env, val e T = some T ∧ putV e T = some T := fun e => by cases T <;> first | exact ⟨rfl, rfl⟩ | (cases fT; done)
    exact set_ok (fz_ok c (by simp only [fz1, (v _).1])) (v _).2 (by simp) rfl
  have R1 : rngI (lenA 1 (consM (callM ⟨2, 2, [true, false], [0, 1], []⟩ F2 (consM (varM 0) (consM (opM addD (varM 1) (cstM (.int 1))) nilM))) nilM)) [some (POT a1 b1), some (.int m), some T, none] = .ok (rangeD 0 r.toNat) [some (POT a2 b2), some (.int m), some T, none] := by
    have c : callM ⟨2, 2, [true, false], [0, 1], []⟩ F2 (consM (varM 0) (consM (opM addD (varM 1) (cstM (.int 1))) nilM)) [some (POT a1 b1), some (.int m), some T, none] = .ok (.int r) [some (POT a2 b2), some (.int m), some T, none] :=
      call_ok (cons_ok rfl (cons_ok (op_ok (x := .rf 1) rfl rfl rfl rfl rfl) rfl)) (bs := [.s 0, .v (.int (m + 1))]) (ds := [POT a1 b1, .int (m + 1)]) (e2 := [none, some (.int m), some T, none]) rfl q1 rfl
    have sm : small62 r = true := by
      simp only [small62, Bool.and_eq_true, decide_eq_true_eq]
      omega
    simp only [rngI, lenA, consM, c, bindR, nilM, List.length_cons, List.length_nil, if_true, rng1, deref, sm]
  obtain ⟨acc, e', L1, ⟨a3, b3, o3, rfl⟩, L2', L3⟩ := lcL_inv (vs := [3]) (g := nameG 3) (t := yesB) (m := callM ⟨2, 2, [true, false], [0, 1], []⟩ F1 (consM (varM 0) (consM (varM 2) nilM))) (fun e => ∃ a b, okPot a b ∧ e = [some (POT a b), some (.int m), some T, none]) (fun y => ∃ x, okS x ∧ y = .str x) (rangeD 0 r.toNat) [] [some (POT a2 b2), some (.int m), some T, none] (fun d hd e he => by
      obtain ⟨a, b, o, rfl⟩ := he
      obtain ⟨a', b', x, k1, k2, k3⟩ := pk a b o
      refine ⟨[some (POT a b), some (.int m), some T, some d], [some (POT a b), some (.int m), some T, some d], .str x, [some (POT a' b'), some (.int m), some T, some d], .str x, rfl, rfl, ?_, rfl, ⟨x, k3, rfl⟩, a', b', k2, rfl⟩
      refine call_ok (bs := [.s 0, .v T]) (ds := [POT a b, T]) (e2 := [none, some (.int m), some T, some d]) rfl ?_ k1 rfl
      simp [take0, argK, val, fT, grab, Mx.pick]) ⟨a2, b2, q2, rfl⟩ (fun e he => by
      obtain ⟨a, b, o, rfl⟩ := he
      exact ⟨a, b, o, rfl⟩) (by simp) (by simp [rangeD]; omega)
  have len : acc.length = r.toNat := by simpa [rangeD] using L2'
  obtain ⟨xs, hxs, rfl⟩ : ∃ xs : List Str, (∀ x ∈ xs, okS x) ∧ acc = xs.map .str := by
    clear L1 L2' len
    induction acc with
    | nil => exact ⟨[], by simp, rfl⟩
    | cons y acc ih =>
      obtain ⟨xs, i1, rfl⟩ := ih fun z hz => L3 z (List.mem_cons_of_mem _ hz)
      obtain ⟨x, j1, rfl⟩ := L3 y (List.mem_cons_self ..)
      refine ⟨x :: xs, fun z hz => ?_, rfl⟩
      rcases List.mem_cons.mp hz with q | q
      · exact q ▸ j1
      · exact i1 z q
  rw [List.length_map] at len
  refine ⟨a3, b3, xs, ?_, o3, ⟨by omega, hxs⟩, by omega⟩
  refine fn_rt (env := [some (POT a b), some (.int m), none, none]) rfl (seq_nx R0 (ret_ok (lc_ok R1 rfl rfl L1) rfl)) ?_
  rfl
end Lw
set_option Elab.async false
set_option linter.all false
set_option maxRecDepth 100000
set_option maxHeartbeats 1000000
namespace Lw
open PySem L2 Mx
def NW : List Str := ["a", "b", "new"]
theorem okNW : ∀ x ∈ NW, okS x := by
  intro x h
  have e : (NW.all fun x => decide ((10 : Nat) ∉ x.cps.toList) && decide (x.length ≤ 10) && PyData.strOk x) = true := by decide +kernel
  exact okS_of (List.all_eq_true.mp e x h)
def newM : EM := lstM (consM (cstM (.str "a")) (consM (cstM (.str "b")) (consM (cstM (.str "new")) nilM)))
theorem new_ok (e : Mx.Env) : newM e = .ok (.own (NW.map .str)) e := rfl
/-- the six ways of one line -/
def waysM (F : FM) : EM := lstM (consM (lstM (consM (varM 4) nilM)) (consM (lstM (consM (varM 4) nilM)) (consM (lstM (consM (varM 4) nilM)) (consM (lstM nilM) (consM (lstM (consM (varM 4) (consM (varM 4) nilM))) (consM (lstM (consM (callM ⟨2, 2, [true, false], [0, 1], []⟩ F (consM (varM 0) (consM newM nilM))) (consM (varM 4) nilM))) nilM))))))
theorem ways_ok {F : FM} {a b a' b' : Int} {x y : Str} {L M K W : Option D} (h : F [POT a b, .lst (NW.map .str)] = .ok (.str y) [POT a' b', .lst (NW.map .str)]) : waysM F [some (POT a b), L, M, K, some (.str x), W] = .ok (.own ([[x], [x], [x], [], [x, x], [y, x]].map TX)) [some (POT a' b'), L, M, K, some (.str x), W] := by
  have c : callM ⟨2, 2, [true, false], [0, 1], []⟩ F (consM (varM 0) (consM newM nilM)) [some (POT a b), L, M, K, some (.str x), W] = .ok (.str y) [some (POT a' b'), L, M, K, some (.str x), W] :=
    call_ok (cons_ok rfl (cons_ok (new_ok _) rfl)) (bs := [.s 0, .v (.lst (NW.map .str))]) (ds := [POT a b, .lst (NW.map .str)]) (e2 := [none, L, M, K, some (.str x), W]) rfl h rfl
  have v1 : lstM (consM (varM 4) nilM) [some (POT a b), L, M, K, some (.str x), W] = .ok (.own [.str x]) [some (POT a b), L, M, K, some (.str x), W] := rfl
  have v2 : lstM (consM (varM 4) (consM (varM 4) nilM)) [some (POT a b), L, M, K, some (.str x), W] = .ok (.own [.str x, .str x]) [some (POT a b), L, M, K, some (.str x), W] := rfl
  have v3 : lstM (consM (callM ⟨2, 2, [true, false], [0, 1], []⟩ F (consM (varM 0) (consM newM nilM))) (consM (varM 4) nilM)) [some (POT a b), L, M, K, some (.str x), W] = .ok (.own [.str y, .str x]) [some (POT a' b'), L, M, K, some (.str x), W] := by
    have := cons_ok c (cons_ok (a := varM 4) (b := nilM) rfl rfl)
    simp only [lstM, this, bindR]
    rfl
  have v0 : lstM nilM [some (POT a b), L, M, K, some (.str x), W] = .ok (.own []) [some (POT a b), L, M, K, some (.str x), W] := rfl
  have := cons_ok v1 (cons_ok v1 (cons_ok v1 (cons_ok v0 (cons_ok v2 (cons_ok v3 (b := nilM) rfl)))))
  simp only [waysM]
  rw [lstM]
  simp only [this, bindR]
  rfl
theorem fz_own_str (l : List Str) (e : Mx.Env) : fz1 (.own (l.map .str)) e = .ok (.lst (l.map .str)) e := by simp only [fz1, val, D.frz, fr_strs]
theorem add_strs (l k : List Str) (h : l.length + k.length ≤ 1000) : addD (.lst (l.map .str)) (TX k) = some (.own ((l ++ k).map .str)) := by
  simp [addD, TX, lstT, big] <;> omega
theorem near_turn {a b m : Int} {L : D} {found : List Str} {x : Str} {z : Option D} (h : okPot a b) (hx : okS x) (hf : found.length ≤ 900) : ∃ a' b' ws r, (seqS (setS 5 (fzM (callM ⟨2, 2, [true, false], [0, 1], []⟩ f__law_draw (consM (varM 0) (consM (cstM (.int 6)) nilM))))) (setS 3 (fzM (opM addD (varM 3) (opM ixD (waysM f__law_pick) (varM 5)))))) [some (POT a b), some L, some (.int m), some (.lst (found.map .str)), some (.str x), z] = .nx [some (POT a' b'), some L, some (.int m), some (.lst ((found ++ ws).map .str)), some (.str x), some (.int r)] ∧ okPot a' b' ∧ ws.length ≤ 2 ∧ ∀ x ∈ ws, okS x := by
  obtain ⟨a1, b1, r, p1, p2, p3, p4⟩ := draw_ok (m := 6) h (by decide)
  obtain ⟨a2, b2, y, q1, q2, q3⟩ := pick_ok (ds := NW.map .str) p2 (by decide) (by decide) (fzL_map (f := D.str) (fun _ => rfl) NW) (fun x hx => by
    obtain ⟨z, _, rfl⟩ := List.mem_map.mp hx
    rfl)
  obtain ⟨y, hy, rfl⟩ := List.mem_map.mp q3
  have oy := okNW y hy
  obtain ⟨d, hd, ha⟩ := at_nat ([[x], [x], [x], [], [x, x], [y, x]].map TX) r p3 (by simpa using p4)
  obtain ⟨ws, hw, rfl⟩ := List.mem_map.mp hd
  have ows : ws.length ≤ 2 ∧ ∀ x ∈ ws, okS x := by
    simp only [List.mem_cons, List.not_mem_nil, or_false] at hw
    rcases hw with rfl | rfl | rfl | rfl | rfl | rfl <;> simp [hx, oy]
  refine ⟨a2, b2, ws, r, ?_, q2, ows⟩
  generalize f__law_draw = F1 at *
  generalize f__law_pick = F2 at *
  have wk := ways_ok (F := F2) (x := x) (y := y) (L := some L) (M := some (.int m)) (K := some (.lst (found.map .str))) (W := some (.int r)) q1
  have ix : ixD (.own ([[x], [x], [x], [], [x, x], [y, x]].map TX)) (.int r) = some (TX ws) := by
    simp only [ixD, Mx.seqI, lstI_own (fz_TXs _)]
    exact ha
  generalize ([[x], [x], [x], [], [x, x], [y, x]].map TX) = WD at *
  have R0 : setS 5 (fzM (callM ⟨2, 2, [true, false], [0, 1], []⟩ F1 (consM (varM 0) (consM (cstM (.int 6)) nilM)))) [some (POT a b), some L, some (.int m), some (.lst (found.map .str)), some (.str x), z] = .nx [some (POT a1 b1), some L, some (.int m), some (.lst (found.map .str)), some (.str x), some (.int r)] :=
    set_ok (fz_ok (call_ok (cons_ok rfl (cons_ok rfl rfl)) (bs := [.s 0, .v (.int 6)]) (ds := [POT a b, .int 6]) (e2 := [none, some L, some (.int m), some (.lst (found.map .str)), some (.str x), z]) rfl p1 rfl) rfl) rfl (by simp) rfl
  have R1 : setS 3 (fzM (opM addD (varM 3) (opM ixD (waysM F2) (varM 5)))) [some (POT a1 b1), some L, some (.int m), some (.lst (found.map .str)), some (.str x), some (.int r)] = .nx [some (POT a2 b2), some L, some (.int m), some (.lst ((found ++ ws).map .str)), some (.str x), some (.int r)] := by
    have fz : ∀ e : Mx.Env, putV e (.lst ((found ++ ws).map .str)) = some (.lst ((found ++ ws).map .str)) := fun _ => rfl
    exact set_ok (fz_ok (op_ok (x := .rf 3) rfl (op_ok (e2 := [some (POT a2 b2), some L, some (.int m), some (.lst (found.map .str)), some (.str x), some (.int r)]) wk rfl rfl rfl ix) rfl rfl (add_strs found ws (by omega))) (fz_own_str _ _)) (fz _) (by simp) rfl
  exact seq_nx R0 R1
end Lw
set_option Elab.async false
set_option linter.all false
set_option maxRecDepth 100000
set_option maxHeartbeats 1000000
namespace Lw
open PySem L2 Mx
theorem near_ok {a b m : Int} {xs : List Str} (h : okPot a b) (hx : okT xs) (hm : 0 ≤ m ∧ m ≤ 60) : ∃ a' b' ys, f__law_near [POT a b, TX xs, .int m] = .ok (.own (ys.map .str)) [POT a' b', TX xs, .int m] ∧ okPot a' b' ∧ okT ys ∧ (ys.length : Int) ≤ m := by
  have fL := fz_TX xs
  have sq : ∀ p q r s : Option D, seqIt (varM 1) [p, some (TX xs), q, r, s, none] = .ok (xs.map .str) [p, some (TX xs), q, r, s, none] := fun p q r s => rfl
  have turn : ∀ (x : Str), okS x → ∀ a b (found : List Str) (z : Option D), okPot a b → found.length ≤ 900 → _ := fun x hx a b found z h hf => near_turn (m := m) (L := TX xs) (z := z) h hx hf
  simp only [f__law_near, b__law_near]
  rw [show (lstM (consM (lstM (consM (varM 4) nilM)) (consM (lstM (consM (varM 4) nilM)) (consM (lstM (consM (varM 4) nilM)) (consM (lstM nilM) (consM (lstM (consM (varM 4) (consM (varM 4) nilM))) (consM (lstM (consM (callM ⟨2, 2, [true, false], [0, 1], []⟩ f__law_pick (consM (varM 0) (consM (lstM (consM (cstM (.str "a")) (consM (cstM (.str "b")) (consM (cstM (.str "new")) nilM)))) nilM))) (consM (varM 4) nilM))) nilM))))))) = waysM f__law_pick from rfl]
  generalize (seqS (setS 5 (fzM (callM ⟨2, 2, [true, false], [0, 1], []⟩ f__law_draw (consM (varM 0) (consM (cstM (.int 6)) nilM))))) (setS 3 (fzM (opM addD (varM 3) (opM ixD (waysM f__law_pick) (varM 5)))))) = BODY at *
  have hlen := hx.1
  generalize TX xs = L at *
  obtain ⟨e', R1, a', b', found, x4, x5, o, rfl, l1, l2⟩ := forL_ind (g := nameG 4) (b := BODY) (fun n e => ∃ a b found x4 x5, okPot a b ∧ e = [some (POT a b), some L, some (.int m), some (.lst (found.map .str)), x4, x5] ∧ found.length ≤ 2 * n ∧ ∀ x ∈ found, okS x) (xs.map .str) 0 [some (POT a b), some L, some (.int m), some (.lst []), none, none] (fun j d hd e he => by
    obtain ⟨a, b, found, x4, x5, o, rfl, f1, f2⟩ := he
    have hm := List.mem_of_getElem? hd
    have hj : j < xs.length := by
      have := (List.getElem?_eq_some_iff.mp hd).1
      simpa using this
    obtain ⟨x, hxm, rfl⟩ := List.mem_map.mp hm
    obtain ⟨a2, b2, ws, r, t1, t2, t3, t4⟩ := turn x (hx.2 x hxm) a b found x5 o (by omega)
    refine ⟨_, _, rfl, .inl t1, a2, b2, found ++ ws, _, _, t2, rfl, by simp; omega, fun y hy => ?_⟩
    rcases List.mem_append.mp hy with q | q
    · exact f2 y q
    · exact t4 y q) ⟨a, b, [], none, none, h, rfl, by simp, by simp⟩
  have R0 : setS 3 (fzM (lstM nilM)) [some (POT a b), some L, some (.int m), none, none, none] = .nx [some (POT a b), some L, some (.int m), some (.lst []), none, none] := rfl
  refine ⟨a', b', found.take m.toNat, ?_, o, ⟨?_, fun x hx => l2 x (List.mem_of_mem_take hx)⟩, ?_⟩
  · have ct : cutD (.lst (found.map .str)) none (some m) = some (.own ((found.take m.toNat).map .str)) := by
      simp only [cutD, lstI, cutL, HT.sIx, if_neg (show ¬ m < 0 by omega), List.drop_zero, Nat.sub_zero, List.length_map]
      have tk : found.take (min m.toNat found.length) = found.take m.toNat := by rw [List.take_eq_take_iff]; omega
      rw [← List.map_take, tk]
    have sl : slM (varM 3) noP (someP (varM 2)) [some (POT a' b'), some L, some (.int m), some (.lst (found.map .str)), x4, x5] = .ok (.own ((found.take m.toNat).map .str)) [some (POT a' b'), some L, some (.int m), some (.lst (found.map .str)), x4, x5] := by
      show re _ (cutD (.lst (found.map .str)) none (some m)) = _
      rw [ct]
      rfl
    refine fn_rt (env := [some (POT a b), some L, some (.int m), none, none, none]) rfl (seq_nx R0 (seq_nx (for_ok (sq _ _ _ _) R1) (ret_ok sl rfl))) ?_
    simp [seqS, setS, set1, putV, bindS, bindR, ifS, retS, ret1, retN, dropS, asgS, asg1, par2S, par2, par3S, par3, skipS, opM, op2, unM, op1, re, varM, movM, vfzM, cstM, nilM, consM, tupM, lstM, items, vals, val, deref, boolM, asB, andB, orB, notB, andV, orV, notV, ifM, chainM, asI, fzM, fz1, fnM, fin, Mx.finish, fz_non, fz_bl, fz_int, fz_str, fz_tup, fz_ptp, fz_lst, fz_scr, fz_dct, fz_obj, fz_own, fz_odct, fz_oobj, D.frz, nameG, tupG, consG, nilG, frzS, yesB, there, modS, unpI, tupI, fL]
  · simp; omega
  · simp; omega
end Lw
set_option Elab.async false
set_option linter.all false
set_option maxRecDepth 100000
set_option maxHeartbeats 1000000
namespace Lw
open PySem L2 Mx
theorem pot_ok (is : List Int) (k : Nat) (hk : k ≤ 100) : ∃ a b, f__law_pot [.scr (is.map .int), .int k] = .ok (POT a b) [.scr (is.map .int), .int k] ∧ okPot a b := by
  have ll : lenD (.scr (is.map .int)) = some (.int is.length) := by simp [lenD, Mx.seqI, lstI]
  have ix : k < is.length → ∃ i : Int, ixD (.scr (is.map .int)) (.int k) = some (.int i) := fun h => by
    obtain ⟨x, hx, e⟩ := at_nat (is.map .int) (k : Int) (by omega) (by simpa using h)
    obtain ⟨i, _, rfl⟩ := List.mem_map.mp hx
    exact ⟨i, by simp [ixD, Mx.seqI, lstI, e]⟩
  have fS : (D.scr (is.map .int)).fz = true := by simp [D.fz]
  simp only [f__law_pot, b__law_pot]
  generalize D.scr (is.map .int) = S at *
  have C : ∃ c : Int, 0 ≤ c ∧ ifM (boolM (opM ltD (varM 1) (unM lenD (varM 0)))) (unM absD (opM ixD (varM 0) (varM 1))) (opM addD (opM mulD (cstM (.int 7)) (varM 1)) (cstM (.int 3))) [some S, some (.int k), none] = .ok (.int c) [some S, some (.int k), none] := by
    have t : boolM (opM ltD (varM 1) (unM lenD (varM 0))) [some S, some (.int k), none] = .ok (decide ((k : Int) < is.length)) [some S, some (.int k), none] := by
      have q : opM ltD (varM 1) (unM lenD (varM 0)) [some S, some (.int k), none] = .ok (.bl (decide ((k : Int) < is.length))) [some S, some (.int k), none] := op_ok (x := .rf 1) rfl (un_ok (x := .rf 0) rfl rfl ll) rfl rfl rfl
      simp only [boolM, q, bindR]
      rfl
    by_cases h : (k : Int) < is.length
    · obtain ⟨i, hi⟩ := ix (by omega)
      refine ⟨if i < 0 then -i else i, by split <;> omega, ?_⟩
      simp only [ifM, t, bindR, decide_eq_true h]
      exact un_ok (op_ok (x := .rf 0) (y := .rf 1) rfl rfl rfl rfl hi) rfl rfl
    · refine ⟨7 * k + 3, by omega, ?_⟩
      simp only [ifM, t, bindR, decide_eq_false h]
      exact un_int (op_ok (x := .int 7) (y := .rf 1) rfl rfl rfl rfl (mulD_ok (mulOk_l (by decide) (by decide)))) _
  obtain ⟨c, c0, hc⟩ := C
  have R0 : setS 2 (fzM (ifM (boolM (opM ltD (varM 1) (unM lenD (varM 0)))) (unM absD (opM ixD (varM 0) (varM 1))) (opM addD (opM mulD (cstM (.int 7)) (varM 1)) (cstM (.int 3))))) [some S, some (.int k), none] = .nx [some S, some (.int k), some (.int c)] := set_ok (fz_ok hc rfl) rfl (by simp) rfl
  have p1 : opM powD (cstM (.int 10)) (cstM (.int 18)) [some S, some (.int k), some (.int c)] = .ok (.int (10 ^ 18)) [some S, some (.int k), some (.int c)] := op_ok rfl rfl rfl rfl (by simp [powD])
  generalize hT : (10 : Int) ^ 18 = T at p1
  have p2 : opM maxD2 (cstM (.int 0)) (opM subD (varM 2) (opM powD (cstM (.int 10)) (cstM (.int 18)))) [some S, some (.int k), some (.int c)] = .ok (.int (if c - T > 0 then c - T else 0)) [some S, some (.int k), some (.int c)] :=
    op_ok rfl (op_ok (x := .rf 2) rfl p1 rfl rfl rfl) rfl rfl rfl
  have m0 : 0 ≤ c % 2147483629 := Int.emod_nonneg _ (by decide)
  have m1 : c % 2147483629 < 2147483629 := Int.emod_lt_of_pos _ (by decide)
  have p3 : opM modD (unM intT (varM 2)) (cstM (.int 2147483629)) [some S, some (.int k), some (.int c)] = .ok (.int (c % 2147483629)) [some S, some (.int k), some (.int c)] := op_ok (un_ok (x := .rf 2) rfl rfl rfl) rfl rfl rfl (modD_ok (by decide))
  generalize c % 2147483629 = d at *
  have p5 : opM mulD (opM modD (unM intT (varM 2)) (cstM (.int 2147483629))) (cstM (.int 48271)) [some S, some (.int k), some (.int c)] = .ok (.int (d * 48271)) [some S, some (.int k), some (.int c)] := op_ok p3 rfl rfl rfl (mulD_ok (mulOk_l m0 (by omega)))
  have p6 : opM mulD (cstM (.int 60029)) (varM 1) [some S, some (.int k), some (.int c)] = .ok (.int (60029 * k)) [some S, some (.int k), some (.int c)] := op_ok (x := .int 60029) (y := .rf 1) rfl rfl rfl rfl (mulD_ok (mulOk_l (by decide) (by decide)))
  have p7 : unM intT (opM addD (opM addD (opM mulD (opM modD (unM intT (varM 2)) (cstM (.int 2147483629))) (cstM (.int 48271))) (opM mulD (cstM (.int 60029)) (varM 1))) (cstM (.int 31))) [some S, some (.int k), some (.int c)] = .ok (.int (d * 48271 + 60029 * k + 31)) [some S, some (.int k), some (.int c)] := un_ok (un_int (i := d * 48271 + 60029 * k) (op_ok p5 p6 rfl rfl rfl) 31) rfl rfl
  have p4 : opM modD (unM intT (opM addD (opM addD (opM mulD (opM modD (unM intT (varM 2)) (cstM (.int 2147483629))) (cstM (.int 48271))) (opM mulD (cstM (.int 60029)) (varM 1))) (cstM (.int 31)))) (cstM (.int 2147483647)) [some S, some (.int k), some (.int c)] = .ok (.int ((d * 48271 + 60029 * k + 31) % 2147483647)) [some S, some (.int k), some (.int c)] :=
    op_ok p7 rfl rfl rfl (modD_ok (by decide))
  have n0 : 0 ≤ (d * 48271 + 60029 * k + 31) % 2147483647 := Int.emod_nonneg _ (by decide)
  have n1 : (d * 48271 + 60029 * k + 31) % 2147483647 < 2147483647 := Int.emod_lt_of_pos _ (by decide)
  generalize (d * 48271 + 60029 * k + 31) % 2147483647 = b at *
  refine ⟨if c - T > 0 then c - T else 0, b, ?_, by split <;> omega, n0, by omega⟩
  have L : lstM (consM (opM maxD2 (cstM (.int 0)) (opM subD (varM 2) (opM powD (cstM (.int 10)) (cstM (.int 18))))) (consM (opM modD (unM intT (opM addD (opM addD (opM mulD (opM modD (unM intT (varM 2)) (cstM (.int 2147483629))) (cstM (.int 48271))) (opM mulD (cstM (.int 60029)) (varM 1))) (cstM (.int 31)))) (cstM (.int 2147483647))) nilM)) [some S, some (.int k), some (.int c)] = .ok (POT (if c - T > 0 then c - T else 0) b) [some S, some (.int k), some (.int c)] := by
    have := cons_ok p2 (cons_ok p4 (b := nilM) rfl)
    simp only [lstM, this, bindR]
    rfl
  refine fn_rt (env := [some S, some (.int k), none]) rfl (seq_nx R0 (ret_ok L rfl)) ?_
  simp [seqS, setS, set1, putV, bindS, bindR, ifS, retS, ret1, retN, dropS, asgS, asg1, par2S, par2, par3S, par3, skipS, opM, op2, unM, op1, re, varM, movM, vfzM, cstM, nilM, consM, tupM, lstM, items, vals, val, deref, boolM, asB, andB, orB, notB, andV, orV, notV, ifM, chainM, asI, fzM, fz1, fnM, fin, Mx.finish, fz_non, fz_bl, fz_int, fz_str, fz_tup, fz_ptp, fz_lst, fz_scr, fz_dct, fz_obj, fz_own, fz_odct, fz_oobj, D.frz, nameG, tupG, consG, nilG, frzS, yesB, there, modS, unpI, tupI, fS, POT]
end Lw
set_option Elab.async false
set_option linter.all false
set_option maxRecDepth 100000
set_option maxHeartbeats 1000000
namespace Lw
open PySem L2 Mx
theorem two_ok {a b m : Int} (h : okPot a b) (hm : 0 ≤ m ∧ m ≤ 60) : ∃ a' b' xs ys, f__law_two [POT a b, .int m] = .ok (.tup [TX xs, TX ys]) [POT a' b', .int m] ∧ okPot a' b' ∧ okT xs ∧ okT ys ∧ (xs.length : Int) ≤ m ∧ (ys.length : Int) ≤ m := by
  obtain ⟨a1, b1, xs, p1, p2, p3, p4⟩ := text_ok h hm
  obtain ⟨a2, b2, r, q1, q2, q3, q4⟩ := draw_ok (m := 3) p2 (by decide)
  obtain ⟨a3, b3, ys, s1, s2, s3, s4⟩ := text_ok q2 hm
  obtain ⟨a4, b4, zs, t1, t2, t3, t4⟩ := near_ok q2 p3 hm
  have fL := fz_TX xs
  have fx : ∀ e : Mx.Env, fz1 (.own (xs.map .str)) e = .ok (TX xs) e := fun e => fz_own_str xs e
  have vv : ∀ (zs : List Str) (e : Mx.Env), val e (.own (zs.map .str)) = some (TX zs) := fun zs e => by simp only [val, D.frz, fr_strs, TX]
  have pv : ∀ e : Mx.Env, putV e (TX xs) = some (TX xs) := fun _ => rfl
  simp only [f__law_two, b__law_two]
  generalize f__law_text = F1 at *
  generalize f__law_draw = F2 at *
  generalize f__law_near = F3 at *
  generalize hX : TX xs = X at *
  have R0 : setS 2 (fzM (callM ⟨2, 2, [true, false], [0, 1], []⟩ F1 (consM (varM 0) (consM (varM 1) nilM)))) [some (POT a b), some (.int m), none] = .nx [some (POT a1 b1), some (.int m), some X] :=
    set_ok (fz_ok (call_ok rfl (bs := [.s 0, .v (.int m)]) (ds := [POT a b, .int m]) (e2 := [none, some (.int m), none]) rfl p1 rfl) (fx _)) (pv _) (by simp) rfl
  have T : boolM (opM eqD (callM ⟨2, 2, [true, false], [0, 1], []⟩ F2 (consM (varM 0) (consM (cstM (.int 3)) nilM))) (cstM (.int 0))) [some (POT a1 b1), some (.int m), some X] = .ok (decide (r = 0)) [some (POT a2 b2), some (.int m), some X] := by
    have q : opM eqD (callM ⟨2, 2, [true, false], [0, 1], []⟩ F2 (consM (varM 0) (consM (cstM (.int 3)) nilM))) (cstM (.int 0)) [some (POT a1 b1), some (.int m), some X] = .ok (.bl (decide (r = 0))) [some (POT a2 b2), some (.int m), some X] :=
      op_ok (call_ok rfl (bs := [.s 0, .v (.int 3)]) (ds := [POT a1 b1, .int 3]) (e2 := [none, some (.int m), some X]) rfl q1 rfl) rfl rfl rfl (eq_int r 0)
    simp only [boolM, q, bindR]
    rfl
  have fin2 : ∀ a' b' (ws : List Str) , fin [true, false, false] [POT a b, .int m] (.tup [X, TX ws]) [some (POT a' b'), some (.int m), some X] = .ok (.tup [X, TX ws]) [POT a' b', .int m] := fun _ _ _ => rfl
  have vX : ∀ a' b', val [some (POT a' b'), some (.int m), some X] (.rf 2) = some X := fun a' b' => by simp [val, fL]
  by_cases hr : r = 0
  · refine ⟨a3, b3, xs, ys, ?_, s2, p3, s3, p4, s4⟩
    rw [decide_eq_true hr] at T
    have I : ifM (boolM (opM eqD (callM ⟨2, 2, [true, false], [0, 1], []⟩ F2 (consM (varM 0) (consM (cstM (.int 3)) nilM))) (cstM (.int 0)))) (callM ⟨2, 2, [true, false], [0, 1], []⟩ F1 (consM (varM 0) (consM (varM 1) nilM))) (callM ⟨3, 3, [true, false, false], [0, 1, 2], []⟩ F3 (consM (varM 0) (consM (varM 2) (consM (varM 1) nilM)))) [some (POT a1 b1), some (.int m), some X] = .ok (.own (ys.map .str)) [some (POT a3 b3), some (.int m), some X] := by
      simp only [ifM, T, bindR]
      exact call_ok rfl (bs := [.s 0, .v (.int m)]) (ds := [POT a2 b2, .int m]) (e2 := [none, some (.int m), some X]) rfl s1 rfl
    have L := cons_ok (a := varM 2) (x := .rf 2) (env := [some (POT a1 b1), some (.int m), some X]) rfl (cons_ok I (b := nilM) rfl)
    have V : vals [some (POT a3 b3), some (.int m), some X] [.rf 2, .own (ys.map .str)] = some [X, TX ys] := by simp only [vals, vX, vv]
    rw [hX]
    refine fn_rt (env := [some (POT a b), some (.int m), none]) rfl (seq_nx R0 (ret_ok (x := .tup [X, TX ys]) (d := .tup [X, TX ys]) (e := [some (POT a3 b3), some (.int m), some X]) ?_ rfl)) (fin2 _ _ _)
    rw [tupM]
    simp only [L, bindR, items, V]
    rfl
  · refine ⟨a4, b4, xs, zs, ?_, t2, p3, t3, p4, t4⟩
    rw [decide_eq_false hr] at T
    have I : ifM (boolM (opM eqD (callM ⟨2, 2, [true, false], [0, 1], []⟩ F2 (consM (varM 0) (consM (cstM (.int 3)) nilM))) (cstM (.int 0)))) (callM ⟨2, 2, [true, false], [0, 1], []⟩ F1 (consM (varM 0) (consM (varM 1) nilM))) (callM ⟨3, 3, [true, false, false], [0, 1, 2], []⟩ F3 (consM (varM 0) (consM (varM 2) (consM (varM 1) nilM)))) [some (POT a1 b1), some (.int m), some X] = .ok (.own (zs.map .str)) [some (POT a4 b4), some (.int m), some X] := by
      simp only [ifM, T, bindR]
      refine call_ok rfl (bs := [.s 0, .v X, .v (.int m)]) (ds := [POT a2 b2, X, .int m]) (e2 := [none, some (.int m), some X]) ?_ t1 rfl
      simp [take0, seqS, setS, set1, putV, bindS, bindR, ifS, retS, ret1, retN, dropS, asgS, asg1, par2S, par2, par3S, par3, skipS, opM, op2, unM, op1, re, varM, movM, vfzM, cstM, nilM, consM, tupM, lstM, items, vals, val, deref, boolM, asB, andB, orB, notB, andV, orV, notV, ifM, chainM, asI, fzM, fz1, fnM, fin, Mx.finish, fz_non, fz_bl, fz_int, fz_str, fz_tup, fz_ptp, fz_lst, fz_scr, fz_dct, fz_obj, fz_own, fz_odct, fz_oobj, D.frz, nameG, tupG, consG, nilG, frzS, yesB, there, modS, unpI, tupI, callM, call1, take0, argK, grab, Mx.putB, Mx.pick, makeM, make1, methM, meth1, appN, starM, star1, fL]
    have L := cons_ok (a := varM 2) (x := .rf 2) (env := [some (POT a1 b1), some (.int m), some X]) rfl (cons_ok I (b := nilM) rfl)
    have V : vals [some (POT a4 b4), some (.int m), some X] [.rf 2, .own (zs.map .str)] = some [X, TX zs] := by simp only [vals, vX, vv]
    rw [hX]
    refine fn_rt (env := [some (POT a b), some (.int m), none]) rfl (seq_nx R0 (ret_ok (x := .tup [X, TX zs]) (d := .tup [X, TX zs]) (e := [some (POT a4 b4), some (.int m), some X]) ?_ rfl)) (fin2 _ _ _)
    rw [tupM]
    simp only [L, bindR, items, V]
    rfl
end Lw
set_option Elab.async false
set_option linter.all false
set_option maxRecDepth 100000
set_option maxHeartbeats 1000000
namespace Lw
open PySem L2 Mx
def putO : List (Str × (Int × Int)) → Str → Int × Int → List (Str × (Int × Int))
  | [], x, v => [(x, v)]
  | p :: own, x, v => if p.1 = x then (p.1, v) :: own else p :: putO own x v
theorem putKey_own (own : List (Str × (Int × Int))) (x : Str) (v : Int × Int) : putKey (KS own) (VS own) (.inr x) (PR v) = some (KS (putO own x v), VS (putO own x v)) := by
  induction own with
  | nil => rfl
  | cons p own ih =>
    simp only [KS, VS] at ih
    by_cases h : p.1 = x
    · simp [KS, VS, putKey, putO, h]
    · simp [KS, VS, putKey, putO, h, ih]
theorem putO_len (own : List (Str × (Int × Int))) (x : Str) (v : Int × Int) : (putO own x v).length ≤ own.length + 1 := by
  induction own with
  | nil => simp [putO]
  | cons p own ih =>
    simp only [putO]
    split <;> simp <;> omega
theorem putO_mem {own : List (Str × (Int × Int))} {x : Str} {v : Int × Int} {p : Str × (Int × Int)} (h : p ∈ putO own x v) : p ∈ own ∨ p = (x, v) := by
  induction own with
  | nil => simp [putO] at h; exact .inr h
  | cons q own ih =>
    simp only [putO] at h
    split at h
    · rename_i e
      rcases List.mem_cons.mp h with h | h
      · exact .inr (by rw [h, e])
      · exact .inl (List.mem_cons_of_mem _ h)
    · rcases List.mem_cons.mp h with h | h
      · exact .inl (h ▸ List.mem_cons_self ..)
      · rcases ih h with h | h
        · exact .inl (List.mem_cons_of_mem _ h)
        · exact .inr h
theorem putO_keys (own : List (Str × (Int × Int))) (x : Str) (v : Int × Int) (nd : (own.map (·.1)).Nodup) : ((putO own x v).map (·.1)).Nodup := by
  induction own with
  | nil => simp [putO]
  | cons p own ih =>
    rw [List.map_cons, List.nodup_cons] at nd
    simp only [putO]
    split
    · rw [List.map_cons, List.nodup_cons]; exact nd
    · rename_i e
      rw [List.map_cons, List.nodup_cons]
      refine ⟨fun z => ?_, ih nd.2⟩
      obtain ⟨q, hq, e2⟩ := List.mem_map.mp z
      rcases putO_mem hq with h | h
      · exact nd.1 (List.mem_map.mpr ⟨q, h, e2⟩)
      · rw [h] at e2; exact e e2.symm
theorem putO_ok {own : List (Str × (Int × Int))} {x : Str} {v : Int × Int} (h : okO own) (hl : own.length < 60) (hx : okS x) (hv : okC v) : okO (putO own x v) := by
  refine ⟨putO_keys own x v h.1, by have := putO_len own x v; omega, fun p hp => ?_⟩
  rcases putO_mem hp with q | q
  · exact h.2.2 p q
  · rw [q]; exact ⟨hx, hv⟩
end Lw
set_option Elab.async false
set_option linter.all false
set_option maxRecDepth 100000
set_option maxHeartbeats 1000000
namespace Lw
open PySem L2 Mx
theorem pyL_ints (l : List Int) : pyL (l.map IN) = some (l.map PyData.int) := by
  induction l with
  | nil => rfl
  | cons a l ih => simp only [List.map_cons, pyL, IN, py] at ih ⊢; simp [ih]
theorem lay_ints (l : List Int) : PyData.canLayAll0 (l.map PyData.int) = true := by
  induction l with
  | nil => rfl
  | cons a l ih => simp [PyData.canLayAll0, PyData.canLay0] at ih ⊢; exact ih
theorem dep_ints (l : List Int) : PyData.depthAll (l.map PyData.int) ≤ 1 := by
  induction l with
  | nil => simp [PyData.depthAll]
  | cons a l ih => simp [PyData.depthAll, PyData.depth] at ih ⊢; exact ih
theorem ne_nil (l : List Int) : neD (.lst (l.map IN)) (.own []) = some (.bl (decide (l ≠ []))) := by
  have h1 := pyL_ints l
  have h2 := lay_ints l
  have h3 := dep_ints l
  have h4 : 1 + PyData.depthAll (l.map PyData.int) ≤ 64 := by omega
  cases l with
  | nil => simp [neD, eqvD, py, pyL, SeqAt.shaped, PyData.canLay0, PyData.canLayAll0, PyData.depth, PyData.depthAll, PyData.eqv, PyData.eqvAll]
  | cons a l =>
    simp only [neD, eqvD, py, h1]
    simp [pyL, SeqAt.shaped, PyData.canLay0, PyData.canLayAll0, PyData.depth, PyData.depthAll, PyData.eqv, PyData.eqvAll] at h2 h4 ⊢
    exact ⟨h2, by omega⟩
end Lw
set_option Elab.async false
set_option linter.all false
set_option maxRecDepth 100000
set_option maxHeartbeats 1000000
namespace Lw
open PySem L2 Mx
/-- the lines behind last that are x -/
def cand (new : List Str) (last : Nat) (x : Str) : List Int := ((List.range (new.length - last)).map fun k : Nat => ((last : Int) + 1 + (k : Int))).filter fun i => decide (lineT new i = x)
theorem mem_cand {new : List Str} {last : Nat} {x : Str} {i : Int} (h : i ∈ cand new last x) : (last : Int) < i ∧ i ≤ new.length ∧ lineT new i = x := by
  simp only [cand, List.mem_filter, List.mem_map, List.mem_range, decide_eq_true_eq] at h
  obtain ⟨⟨k, hk, rfl⟩, e⟩ := h
  exact ⟨by omega, by omega, e⟩
theorem range_from (last n : Nat) : rangeD ((last : Int) + 1) ((n : Int) + 1 - ((last : Int) + 1)).toNat = ((List.range (n - last)).map fun k : Nat => ((last : Int) + 1 + (k : Int))).map IN := by
  rw [show ((n : Int) + 1 - ((last : Int) + 1)).toNat = n - last by omega]
  simp [rangeD, IN, Function.comp_def]
theorem cand_len (new : List Str) (last : Nat) (x : Str) : (cand new last x).length ≤ new.length := by
  have := List.length_filter_le (fun i => decide (lineT new i = x)) ((List.range (new.length - last)).map fun k : Nat => ((last : Int) + 1 + (k : Int)))
  simp only [List.length_map, List.length_range] at this
  simp only [cand]
  omega
theorem lc_cand {new : List Str} {last : Nat} {x : Str} (hn : okT new) (hx : okS x) (a b c d f g h : Option D) : lcL [9] (nameG 9) (boolM (opM eqD (opM ixD (varM 2) (opM subD (varM 9) (cstM (.int 1)))) (varM 7))) (varM 9) (((List.range (new.length - last)).map fun k : Nat => ((last : Int) + 1 + (k : Int))).map IN) [a, b, some (TX new), c, d, f, g, some (.str x), h, none] [] = .ok (.own ((cand new last x).map IN)) [a, b, some (TX new), c, d, f, g, some (.str x), h, none] := by
  have z := lcL_map (vs := [9]) (g := nameG 9) (t := boolM (opM eqD (opM ixD (varM 2) (opM subD (varM 9) (cstM (.int 1)))) (varM 7))) (m := varM 9) (e0 := [a, b, some (TX new), c, d, f, g, some (.str x), h, none]) rfl IN IN (fun i => decide (lineT new i = x)) ((List.range (new.length - last)).map fun k : Nat => ((last : Int) + 1 + (k : Int))) [] (fun i hi => ?_) (by have := hn.1; simp; omega)
  · simpa [cand] using z
  · obtain ⟨k, hk, rfl⟩ := List.mem_map.mp hi
    rw [List.mem_range] at hk
    have l1 : (1 : Int) ≤ (last : Int) + 1 + k := by omega
    have l2 : (last : Int) + 1 + k ≤ new.length := by omega
    obtain ⟨m1, m2⟩ := lineT_ok (t := false) l1 l2
    generalize (last : Int) + 1 + (k : Int) = i at *
    have q1 : opM ixD (varM 2) (opM subD (varM 9) (cstM (.int 1))) [a, b, some (TX new), c, d, f, g, some (.str x), h, some (.int i)] = .ok (.str (lineT new i)) [a, b, some (TX new), c, d, f, g, some (.str x), h, some (.int i)] := op_ok (x := .rf 2) (y := .int (i - 1)) rfl rfl rfl rfl m2
    have q2 : opM eqD (opM ixD (varM 2) (opM subD (varM 9) (cstM (.int 1)))) (varM 7) [a, b, some (TX new), c, d, f, g, some (.str x), h, some (.int i)] = .ok (.bl (decide (lineT new i = x))) [a, b, some (TX new), c, d, f, g, some (.str x), h, some (.int i)] := op_ok (y := .rf 7) q1 rfl rfl rfl (eq_str (hn.2 _ m1).2.2 hx.2.2)
    have q3 : boolM (opM eqD (opM ixD (varM 2) (opM subD (varM 9) (cstM (.int 1)))) (varM 7)) [a, b, some (TX new), c, d, f, g, some (.str x), h, some (.int i)] = .ok (decide (lineT new i = x)) [a, b, some (TX new), c, d, f, g, some (.str x), h, some (.int i)] := by
      simp only [boolM, q2, bindR]
      rfl
    refine ⟨_, _, rfl, q3, ?_⟩
    cases hb : decide (lineT new i = x) with
    | false => exact .inl ⟨rfl, rfl⟩
    | true => exact .inr ⟨rfl, .rf 9, _, rfl, rfl, rfl⟩
end Lw
set_option Elab.async false
set_option linter.all false
set_option maxRecDepth 100000
set_option maxHeartbeats 1000000
namespace Lw
open PySem L2 Mx
theorem val_ints {e : Mx.Env} {l : List Int} : val e (.own (l.map IN)) = some (.lst (l.map IN)) := by simp only [val, D.frz, fz_ints]
theorem val_strs {e : Mx.Env} {l : List Str} : val e (.own (l.map .str)) = some (TX l) := by simp only [val, D.frz, fr_strs, TX]
theorem val_prs {e : Mx.Env} {l : List (Int × Int)} : val e (.own (l.map PR)) = some (.lst (l.map PR)) := by
  simp only [val, D.frz, frzL_eq, List.map_map]; rfl
theorem val_qvs {e : Mx.Env} {l : List (Int × Int × Int × Int)} : val e (.own (l.map QV)) = some (.lst (l.map QV)) := by
  simp only [val, D.frz, frzL_eq, List.map_map]; rfl
theorem cmp_int {f : Int → Int → Bool} {i j : Int} : cmpD f (.int i) (.int j) = some (.bl (f i j)) := rfl
theorem lt_int {i j : Int} : ltD (.int i) (.int j) = some (.bl (decide (i < j))) := rfl
theorem add_int {i j : Int} : addD (.int i) (.int j) = some (.int (i + j)) := rfl
theorem sub_int {i j : Int} : subD (.int i) (.int j) = some (.int (i - j)) := rfl
theorem seq_TX {l : List Str} : seqD (TX l) = some (l.map .str) := rfl
theorem seq_DF {l : List (Int × Int)} : seqD (DF l) = some (l.map PR) := rfl
theorem seq_ints {l : List Int} : seqD (.lst (l.map IN)) = some (l.map IN) := rfl
theorem seq_qvs {l : List (Int × Int × Int × Int)} : seqD (.lst (l.map QV)) = some (l.map QV) := rfl
theorem fz_prs0 {l : List (Int × Int)} : fzL (l.map PR) = true := fzL_map (fun _ => rfl) l
theorem tuple_prs {l : List (Int × Int)} : tupleD (.own (l.map PR)) = some (DF l) := by simp only [tupleD, lstI_own fz_prs0, DF]
end Lw
set_option Elab.async false
set_option linter.all false
set_option maxRecDepth 100000
set_option maxHeartbeats 1000000
namespace Lw
open PySem L2 Mx
local macro_rules | `(tactic| walk_at "leaf") => `(tactic| exact rfl)
local macro_rules | `(tactic| walk_at "one") => `(tactic| first
  | with_reducible assumption
  | with_reducible exact small_le (by omega) (by omega)
  | with_reducible apply w_fn
  | with_reducible apply w_finN
  | with_reducible apply w_finR
  | with_reducible apply w_seqN
  | with_reducible exact w_seqR
  | with_reducible exact w_seqB
  | with_reducible exact w_seqC
  | with_reducible apply w_seq
  | with_reducible exact w_skip
  | with_reducible exact w_brk
  | with_reducible exact w_cnt
  | with_reducible exact w_retN
  | with_reducible apply w_if
  | with_reducible apply w_ret
  | with_reducible apply w_set
  | with_reducible apply w_drop
  | with_reducible apply w_frz
  | with_reducible apply w_asg
  | with_reducible apply w_par2
  | with_reducible apply w_par3
  | with_reducible apply cs_T
  | with_reducible apply cs_F
  | with_reducible apply cs_nT
  | with_reducible apply cs_nF
  | with_reducible refine' cs_Td (by assumption) ?_
  | with_reducible refine' cs_Fd (by assumption) ?_
  | with_reducible refine' cs_nTd (by assumption) ?_
  | with_reducible refine' cs_nFd (by assumption) ?_
  | with_reducible refine' cs_Th (by assumption) ?_
  | with_reducible refine' cs_Fh (by assumption) ?_
  | with_reducible refine' cs_Td (by omega) ?_
  | with_reducible refine' cs_Fd (by omega) ?_
  | with_reducible exact cs_not
  | with_reducible apply w_op
  | with_reducible apply w_un
  | with_reducible apply w_bool
  | with_reducible apply w_and
  | with_reducible apply w_or
  | with_reducible apply w_not
  | with_reducible apply w_andV
  | with_reducible apply w_orV
  | with_reducible apply w_notV
  | with_reducible apply w_ifM
  | with_reducible apply w_cons
  | with_reducible exact w_nil
  | with_reducible exact w_cst
  | with_reducible exact w_yes
  | with_reducible apply w_tup
  | with_reducible apply w_lst
  | with_reducible exact w_var rfl
  | with_reducible apply w_mov
  | with_reducible apply w_vfz
  | with_reducible apply w_fz
  | with_reducible apply w_vals
  | with_reducible exact w_vals0
  | with_reducible apply w_app
  | with_reducible apply w_slNS
  | with_reducible apply w_lrg2
  | with_reducible apply w_get1
  | with_reducible apply w_get2
  | with_reducible apply w_own
  | with_reducible apply w_apo
  | with_reducible apply w_forAp
  | with_reducible apply w_slSN
  | with_reducible apply w_slSS
  | with_reducible apply w_slNN
  | with_reducible apply w_seqIt
  | with_reducible apply w_rng1
  | with_reducible apply w_rng2
  | with_reducible apply w_enum
  | with_reducible apply w_items
  | with_reducible apply w_zip
  | with_reducible apply w_gname
  | with_reducible apply w_gcons
  | with_reducible exact w_gnil
  | with_reducible apply w_gsub
  | apply w_gtup
  | with_reducible apply w_callM
  | with_reducible apply w_callV
  | with_reducible apply w_methV
  | with_reducible apply w_make
  | with_reducible exact lt_ble rfl
  | with_reducible exact le_ble rfl
  | with_reducible exact ls0
  | with_reducible exact ls1
  | with_reducible exact ls2
  | with_reducible exact ls3
  | with_reducible exact ls4
  | with_reducible exact ls5
  | with_reducible exact ls6
  | with_reducible exact ls7
  | with_reducible exact ls8
  | with_reducible exact ls9
  | with_reducible exact ls10
  | with_reducible exact ls11
  | with_reducible exact ls12
  | with_reducible exact ls13
  | with_reducible exact ls14
  | with_reducible exact ls15
  | with_reducible exact ls16
  | with_reducible exact ls17
  | with_reducible exact ls18
  | with_reducible exact ls19
  | with_reducible exact ls20
  | with_reducible exact ls21
  | with_reducible exact ls22
  | with_reducible exact ls23
  | with_reducible exact ls24
  | with_reducible exact ls25
  | with_reducible exact pk0
  | with_reducible exact pk1
  | with_reducible exact pk2
  | with_reducible exact pk3
  | with_reducible exact pk4
  | with_reducible exact pk5
  | with_reducible exact pk6
  | with_reducible exact pk7
  | with_reducible exact pk8
  | with_reducible apply env_cons
  | with_reducible exact rp0
  | with_reducible exact rp1
  | with_reducible exact rp2
  | with_reducible exact rp3
  | with_reducible exact rp4
  | with_reducible exact rp5
  | with_reducible exact rp6
  | with_reducible exact rp7
  | with_reducible exact rp8
  | with_reducible exact rp9
  | with_reducible exact rp10
  | with_reducible exact rp11
  | with_reducible exact rp12
  | with_reducible exact rp13
  | with_reducible exact rp14
  | with_reducible exact rp15
  | with_reducible exact rp16
  | with_reducible exact rp17
  | with_reducible exact rp18
  | with_reducible exact rp19
  | with_reducible exact rp20
  | with_reducible exact rp21
  | with_reducible exact rp22
  | with_reducible exact rp23
  | with_reducible exact rp24
  | with_reducible exact rp25
  | with_reducible exact pk_sw2
  | with_reducible exact pk_sw3
  | with_reducible exact w_derf rfl
  | ((with_reducible apply w_valrf) <;> exact rfl)
  | with_reducible exact w_valrf rfl (by assumption)
  | ((with_reducible refine val_of ?_); exact rfl)
  | ((with_reducible refine notin_of ?_); decide)
  | ((with_reducible refine val_ownL ?_); exact rfl)
  | ((with_reducible refine deref_of ?_); exact rfl)
  | ((with_reducible apply w_puvf) <;> exact rfl)
  | with_reducible exact w_puvf rfl (by assumption)
  | ((with_reducible refine putV_of ?_); exact rfl)
  | walk_at "leaf")
local macro_rules | `(tactic| walk_at "go") => `(tactic| repeat' (walk_at "one"))
local macro_rules | `(tactic| walk_at "leaf") => `(tactic| first
  | with_reducible exact la_TX _
  | with_reducible exact val_ints
  | with_reducible exact val_prs
  | with_reducible exact val_strs
  | with_reducible exact ne_nil _
  | with_reducible exact eq_int _ _
  | with_reducible exact ne_int _ _
  | with_reducible exact cmp_int
  | with_reducible exact lt_int
  | with_reducible exact add_int
  | with_reducible exact sub_int
  | with_reducible exact small_le (by omega) (by omega)
  | with_reducible exact seq_TX
  | with_reducible exact seq_DF
  | with_reducible exact seq_ints
  | with_reducible exact seq_qvs
  | with_reducible exact fz_prs0
  | with_reducible exact val_qvs
  | with_reducible exact tuple_prs
  | exact rfl)
theorem C_diff_ok {new : List Str} {last far : Nat} {x : Str} (hn : okT new) (hx : okS x) (hl : last ≤ new.length) (a b c g h : Option D) : C__law_diff_1 [a, b, some (TX new), c, some (.int last), some (.int far), g, some (.str x), h, none] = .ok (.own ((cand new last x).map IN)) [a, b, some (TX new), c, some (.int last), some (.int far), g, some (.str x), h, none] := by
  have hlen := hn.1
  have l1 := lc_cand (last := last) hn hx a b c (some (.int last)) (some (.int far)) g h
  rw [← range_from] at l1
  apply w_lc (hl := l1)
  · walk_at "go"
  · rfl
  · rfl
theorem L_diff_ok {a b : Int} {old new : List Str} {k last far : Nat} {ps : List (Int × Int)} {x : Str} {z : Option D} (h : okPot a b) (hn : okT new) (hx : okS x) (hl : last ≤ new.length) (hps : ps.length ≤ 60) : ∃ a' b' last' add s8, L__law_diff_1 [some (POT a b), some (TX old), some (TX new), some (.own (ps.map PR)), some (.int last), some (.int far), some (.int k), some (.str x), z, none] = .nx [some (POT a' b'), some (TX old), some (TX new), some (.own ((ps ++ add).map PR)), some (.int (last' : Nat)), some (.int far), some (.int k), some (.str x), s8, none] ∧ okPot a' b' ∧ ((add = [] ∧ last' = last) ∨ (add = [((k : Int) + 1, (last' : Int))] ∧ last < last' ∧ last' ≤ new.length ∧ lineT new last' = x)) := by
  have C := fun e8 => C_diff_ok (far := far) hn hx hl (some (POT a b)) (some (TX old)) (some (.own (ps.map PR))) (some (.int k)) e8
  have ct : cutD (.own ((cand new last x).map IN)) none (some (far : Int)) = some (.own (((cand new last x).take far).map IN)) := by
    simp only [cutD, lstI_own (fzL_map (f := IN) (fun _ => rfl) _), cutL, HT.sIx, if_neg (show ¬ (far : Int) < 0 by omega), List.drop_zero, Nat.sub_zero, List.length_map, Int.toNat_natCast]
    have tk : (cand new last x).take (min far (cand new last x).length) = (cand new last x).take far := by rw [List.take_eq_take_iff]; omega
    rw [← List.map_take, tk]
  have hlen := hn.1
  have cl := cand_len new last x
  have mem : ∀ i ∈ (cand new last x).take far, (last : Int) < i ∧ i ≤ new.length ∧ lineT new i = x := fun i hi => mem_cand (List.mem_of_mem_take hi)
  have tl : ((cand new last x).take far).length ≤ 60 := by simp; omega
  have C := C z
  generalize (cand new last x).take far = some_ at *
  by_cases hs : some_ ≠ []
  · obtain ⟨a1, b1, r, p1, p2, p3, p4⟩ := draw_ok (m := 4) h (by decide)
    by_cases hr : 0 < r
    · obtain ⟨a2, b2, y, q1, q2, q3⟩ := pick_ok (ds := some_.map IN) p2 (by rw [List.length_map]; exact List.length_pos_iff.mpr hs) (by simp; omega) (fzL_map (f := IN) (fun _ => rfl) _) (fun x hx => by
        obtain ⟨z, _, rfl⟩ := List.mem_map.mp hx
        rfl)
      obtain ⟨i, hi, rfl⟩ := List.mem_map.mp q3
      obtain ⟨m1, m2, m3⟩ := mem i hi
      obtain ⟨n, rfl⟩ : ∃ n : Nat, i = n := ⟨i.toNat, by omega⟩
      have ll : (ps.map PR).length < 1000000 := by simp; omega
      have vi : ∀ e : Mx.Env, val e (IN n) = some (.int n) := fun _ => rfl
      refine ⟨a2, b2, n, [((k : Int) + 1, (n : Int))], some (.lst (some_.map IN)), ?_, q2, .inr ⟨rfl, by omega, by omega, m3⟩⟩
      rw [List.map_append]
      unfold L__law_diff_1
      walk_at "go"
    · refine ⟨a1, b1, last, [], some (.lst (some_.map IN)), ?_, p2, .inl ⟨rfl, rfl⟩⟩
      rw [List.append_nil]
      unfold L__law_diff_1
      walk_at "go"
  · refine ⟨a, b, last, [], some (.lst (some_.map IN)), ?_, h, .inl ⟨rfl, rfl⟩⟩
    rw [List.append_nil]
    unfold L__law_diff_1
    walk_at "go"
end Lw
set_option Elab.async false
set_option linter.all false
set_option maxRecDepth 100000
set_option maxHeartbeats 1000000
namespace Lw
open PySem L2 Mx
local macro_rules | `(tactic| walk_at "leaf") => `(tactic| exact rfl)
local macro_rules | `(tactic| walk_at "one") => `(tactic| first
  | with_reducible assumption
  | with_reducible exact small_le (by omega) (by omega)
  | with_reducible apply w_fn
  | with_reducible apply w_finN
  | with_reducible apply w_finR
  | with_reducible apply w_seqN
  | with_reducible exact w_seqR
  | with_reducible exact w_seqB
  | with_reducible exact w_seqC
  | with_reducible apply w_seq
  | with_reducible exact w_skip
  | with_reducible exact w_brk
  | with_reducible exact w_cnt
  | with_reducible exact w_retN
  | with_reducible apply w_if
  | with_reducible apply w_ret
  | with_reducible apply w_set
  | with_reducible apply w_drop
  | with_reducible apply w_frz
  | with_reducible apply w_asg
  | with_reducible apply w_par2
  | with_reducible apply w_par3
  | with_reducible apply cs_T
  | with_reducible apply cs_F
  | with_reducible apply cs_nT
  | with_reducible apply cs_nF
  | with_reducible refine' cs_Td (by assumption) ?_
  | with_reducible refine' cs_Fd (by assumption) ?_
  | with_reducible refine' cs_nTd (by assumption) ?_
  | with_reducible refine' cs_nFd (by assumption) ?_
  | with_reducible refine' cs_Th (by assumption) ?_
  | with_reducible refine' cs_Fh (by assumption) ?_
  | with_reducible refine' cs_Td (by omega) ?_
  | with_reducible refine' cs_Fd (by omega) ?_
  | with_reducible exact cs_not
  | with_reducible apply w_op
  | with_reducible apply w_un
  | with_reducible apply w_bool
  | with_reducible apply w_and
  | with_reducible apply w_or
  | with_reducible apply w_not
  | with_reducible apply w_andV
  | with_reducible apply w_orV
  | with_reducible apply w_notV
  | with_reducible apply w_ifM
  | with_reducible apply w_cons
  | with_reducible exact w_nil
  | with_reducible exact w_cst
  | with_reducible exact w_yes
  | with_reducible apply w_tup
  | with_reducible apply w_lst
  | with_reducible exact w_var rfl
  | with_reducible apply w_mov
  | with_reducible apply w_vfz
  | with_reducible apply w_fz
  | with_reducible apply w_vals
  | with_reducible exact w_vals0
  | with_reducible apply w_app
  | with_reducible apply w_slNS
  | with_reducible apply w_lrg2
  | with_reducible apply w_get1
  | with_reducible apply w_get2
  | with_reducible apply w_own
  | with_reducible apply w_apo
  | with_reducible apply w_forAp
  | with_reducible apply w_slSN
  | with_reducible apply w_slSS
  | with_reducible apply w_slNN
  | with_reducible apply w_seqIt
  | with_reducible apply w_rng1
  | with_reducible apply w_rng2
  | with_reducible apply w_enum
  | with_reducible apply w_items
  | with_reducible apply w_zip
  | with_reducible apply w_gname
  | with_reducible apply w_gcons
  | with_reducible exact w_gnil
  | with_reducible apply w_gsub
  | apply w_gtup
  | with_reducible apply w_callM
  | with_reducible apply w_callV
  | with_reducible apply w_methV
  | with_reducible apply w_make
  | with_reducible exact lt_ble rfl
  | with_reducible exact le_ble rfl
  | with_reducible exact ls0
  | with_reducible exact ls1
  | with_reducible exact ls2
  | with_reducible exact ls3
  | with_reducible exact ls4
  | with_reducible exact ls5
  | with_reducible exact ls6
  | with_reducible exact ls7
  | with_reducible exact ls8
  | with_reducible exact ls9
  | with_reducible exact ls10
  | with_reducible exact ls11
  | with_reducible exact ls12
  | with_reducible exact ls13
  | with_reducible exact ls14
  | with_reducible exact ls15
  | with_reducible exact ls16
  | with_reducible exact ls17
  | with_reducible exact ls18
  | with_reducible exact ls19
  | with_reducible exact ls20
  | with_reducible exact ls21
  | with_reducible exact ls22
  | with_reducible exact ls23
  | with_reducible exact ls24
  | with_reducible exact ls25
  | with_reducible exact pk0
  | with_reducible exact pk1
  | with_reducible exact pk2
  | with_reducible exact pk3
  | with_reducible exact pk4
  | with_reducible exact pk5
  | with_reducible exact pk6
  | with_reducible exact pk7
  | with_reducible exact pk8
  | with_reducible apply env_cons
  | with_reducible exact rp0
  | with_reducible exact rp1
  | with_reducible exact rp2
  | with_reducible exact rp3
  | with_reducible exact rp4
  | with_reducible exact rp5
  | with_reducible exact rp6
  | with_reducible exact rp7
  | with_reducible exact rp8
  | with_reducible exact rp9
  | with_reducible exact rp10
  | with_reducible exact rp11
  | with_reducible exact rp12
  | with_reducible exact rp13
  | with_reducible exact rp14
  | with_reducible exact rp15
  | with_reducible exact rp16
  | with_reducible exact rp17
  | with_reducible exact rp18
  | with_reducible exact rp19
  | with_reducible exact rp20
  | with_reducible exact rp21
  | with_reducible exact rp22
  | with_reducible exact rp23
  | with_reducible exact rp24
  | with_reducible exact rp25
  | with_reducible exact pk_sw2
  | with_reducible exact pk_sw3
  | with_reducible exact w_derf rfl
  | ((with_reducible apply w_valrf) <;> exact rfl)
  | with_reducible exact w_valrf rfl (by assumption)
  | ((with_reducible refine val_of ?_); exact rfl)
  | ((with_reducible refine notin_of ?_); decide)
  | ((with_reducible refine val_ownL ?_); exact rfl)
  | ((with_reducible refine deref_of ?_); exact rfl)
  | ((with_reducible apply w_puvf) <;> exact rfl)
  | with_reducible exact w_puvf rfl (by assumption)
  | ((with_reducible refine putV_of ?_); exact rfl)
  | walk_at "leaf")
local macro_rules | `(tactic| walk_at "go") => `(tactic| repeat' (walk_at "one"))
local macro_rules | `(tactic| walk_at "leaf") => `(tactic| first
  | with_reducible exact la_TX _
  | with_reducible exact val_ints
  | with_reducible exact val_prs
  | with_reducible exact val_strs
  | with_reducible exact ne_nil _
  | with_reducible exact eq_int _ _
  | with_reducible exact ne_int _ _
  | with_reducible exact cmp_int
  | with_reducible exact lt_int
  | with_reducible exact add_int
  | with_reducible exact sub_int
  | with_reducible exact small_le (by omega) (by omega)
  | with_reducible exact seq_TX
  | with_reducible exact seq_DF
  | with_reducible exact seq_ints
  | with_reducible exact seq_qvs
  | with_reducible exact fz_prs0
  | with_reducible exact val_qvs
  | with_reducible exact tuple_prs
  | exact rfl)
theorem F_diff_ok {a b : Int} {old new : List Str} {far : Nat} (h : okPot a b) (ho : okT old) (hn : okT new) : ∃ a' b' last' ps z6 z7 z8, F__law_diff_1 [some (POT a b), some (TX old), some (TX new), some (.own []), some (.int 0), some (.int far), none, none, none, none] = .nx [some (POT a' b'), some (TX old), some (TX new), some (.own (ps.map PR)), some (.int (last' : Nat)), some (.int far), z6, z7, z8, none] ∧ okPot a' b' ∧ okD old new ps := by
  have hlen := ho.1
  obtain ⟨e', R, a', b', last', ps, z6, z7, z8, i1, rfl, i3, i4, i5, i6⟩ := forL_ind (g := tupG 2 (consG (nameG 6) (consG (nameG 7) nilG))) (b := L__law_diff_1) (fun n e => ∃ a b last ps z6 z7 z8, okPot a b ∧ e = [some (POT a b), some (TX old), some (TX new), some (.own (ps.map PR)), some (.int (last : Nat)), some (.int far), z6, z7, z8, none] ∧ last ≤ new.length ∧ okD old new ps ∧ (∀ p ∈ ps, p.1 ≤ (n : Int) ∧ p.2 ≤ (last : Int)) ∧ ps.length ≤ n) (enumD 0 (old.map .str)) 0 [some (POT a b), some (TX old), some (TX new), some (.own []), some (.int 0), some (.int far), none, none, none, none] (fun j d hd e he => by
      obtain ⟨a, b, last, ps, z6, z7, z8, o, rfl, j1, j2, j3, j4⟩ := he
      rw [enumD_get, List.getElem?_map] at hd
      cases hx : old[j]? with
      | none => rw [hx] at hd; cases hd
      | some x =>
        rw [hx] at hd
        simp only [Option.map_some, Option.some.injEq, Nat.zero_add] at hd
        subst hd
        have hj : j < old.length := (List.getElem?_eq_some_iff.mp hx).1
        have hxm : x ∈ old := List.mem_of_getElem? hx
        rw [Nat.zero_add] at j3 j4
        obtain ⟨a', b', last', add, s8, t1, t2, t3⟩ := L_diff_ok (old := old) (k := j) (far := far) (ps := ps) (z := z8) o hn (ho.2 x hxm) j1 (by omega)
        refine ⟨_, _, rfl, .inl t1, a', b', last', ps ++ add, _, _, _, t2, rfl, ?_, ?_, ?_, ?_⟩
        · rcases t3 with ⟨_, rfl⟩ | ⟨_, _, q, _⟩ <;> assumption
        · rcases t3 with ⟨rfl, rfl⟩ | ⟨rfl, q1, q2, q3⟩
          · rw [List.append_nil]; exact j2
          · refine ⟨fun p hp => ?_, ?_⟩
            · rcases List.mem_append.mp hp with z | z
              · exact j2.1 p z
              · rw [List.mem_singleton.mp z]
                refine ⟨by show (1 : Int) ≤ j + 1; omega, by show (j : Int) + 1 ≤ old.length; omega, by show (1 : Int) ≤ last'; omega, by show (last' : Int) ≤ new.length; omega, ?_⟩
                obtain ⟨y, y1, y2⟩ := lineAt_some (xs := new) (i := last') (by omega) (by omega)
                rw [lineT, y1, Option.getD_some] at q3
                show lineAt old ((j : Int) + 1) = lineAt new last'
                rw [y1, lineAt, show ((j : Int) + 1 - 1).toNat = j by omega, hx, q3]
            · rw [List.pairwise_append]
              refine ⟨j2.2, List.pairwise_singleton _ _, fun p hp q hq => ?_⟩
              rw [List.mem_singleton.mp hq]
              have := j3 p hp
              show p.1 < (j : Int) + 1 ∧ p.2 < (last' : Int)
              omega
        · intro p hp
          rw [Nat.zero_add]
          rcases t3 with ⟨rfl, rfl⟩ | ⟨rfl, q1, q2, q3⟩
          · rw [List.append_nil] at hp
            have := j3 p hp
            omega
          · rcases List.mem_append.mp hp with z | z
            · have := j3 p z
              omega
            · rw [List.mem_singleton.mp z]
              show (j : Int) + 1 ≤ _ ∧ (last' : Int) ≤ last'
              omega
        · rw [List.length_append]
          rcases t3 with ⟨rfl, rfl⟩ | ⟨rfl, q1, q2, q3⟩
          · simp; omega
          · simp; omega) ⟨a, b, 0, [], none, none, none, h, rfl, by omega, ⟨by simp, by simp⟩, by simp, by simp⟩
  exact ⟨a', b', last', ps, z6, z7, z8, w_for rfl R, i1, i4⟩
theorem law_diff_ok {a b : Int} {old new : List Str} (h : okPot a b) (ho : okT old) (hn : okT new) : ∃ a' b' ps, f__law_diff [POT a b, TX old, TX new] = .ok (DF ps) [POT a' b', TX old, TX new] ∧ okPot a' b' ∧ okD old new ps := by
  obtain ⟨a1, b1, x, p1, p2, p3⟩ := pick_ok (ds := [.int 1, .int 2, .int 60]) h (by decide) (by decide) rfl (by simp [D.fz])
  obtain ⟨far, rfl⟩ : ∃ n : Nat, x = .int n := by
    simp only [List.mem_cons, List.not_mem_nil, or_false] at p3
    rcases p3 with rfl | rfl | rfl
    · exact ⟨1, rfl⟩
    · exact ⟨2, rfl⟩
    · exact ⟨60, rfl⟩
  obtain ⟨a2, b2, last, ps, z6, z7, z8, q1, q2, q3⟩ := F_diff_ok (far := far) p2 ho hn
  refine ⟨a2, b2, ps, ?_, q2, q3⟩
  unfold f__law_diff b__law_diff
  walk_at "go"
end Lw
set_option Elab.async false
set_option linter.all false
set_option maxRecDepth 100000
set_option maxHeartbeats 1000000
namespace Lw
open PySem L2 Mx
def gap (p q : Int × Int) : List (Int × Int × Int × Int) := if (p.1, p.2) ≠ (q.1 - 1, q.2 - 1) then [(p.1, q.1 - 1, p.2, q.2 - 1)] else []
theorem blks_gap (a c : Int) (p : Int × Int) (l : List (Int × Int)) : blks a c (p :: l) = gap (a, c) p ++ blks p.1 p.2 l := rfl
theorem mem_without' {n : Nat} {is : List Int} {i : Int} : i ∈ without n is ↔ (1 ≤ i ∧ i ≤ n) ∧ i ∉ is := by
  simp only [without, List.mem_filter, List.mem_map, List.mem_range, Bool.not_eq_true', decide_eq_false_iff_not]
  refine and_congr_left fun _ => ⟨?_, fun h => ⟨(i - 1).toNat, by omega, by omega⟩⟩
  rintro ⟨k, hk, rfl⟩
  omega
theorem nodup_without (n : Nat) (is : List Int) : (without n is).Nodup := by
  refine List.Pairwise.filter _ ?_
  rw [List.pairwise_map]
  exact List.nodup_range.imp fun h => by omega
theorem perm_of_mem {l k : List Int} (hl : l.Nodup) (hk : k.Nodup) (h : ∀ i, i ∈ l ↔ i ∈ k) : l.Perm k := by
  rw [List.perm_iff_count]
  intro a
  rw [hl.count, hk.count]
  by_cases q : a ∈ l
  · rw [if_pos q, if_pos ((h a).mp q)]
  · rw [if_neg q, if_neg (fun z => q ((h a).mpr z))]
theorem sum_perm {l k : List Int} (h : l.Perm k) : l.sum = k.sum := by
  induction h with
  | nil => rfl
  | cons x _ ih => simp only [List.sum_cons, ih]
  | swap x y l => simp only [List.sum_cons]; omega
  | trans _ _ i j => exact i.trans j
end Lw
set_option Elab.async false
set_option linter.all false
set_option maxRecDepth 100000
set_option maxHeartbeats 1000000
namespace Lw
open PySem L2 Mx
theorem blks_bd (l : List (Int × Int)) : ∀ a c : Int, (0 ≤ a ∧ a ≤ 100 ∧ 0 ≤ c ∧ c ≤ 100) → (∀ p ∈ l, 1 ≤ p.1 ∧ p.1 ≤ 100 ∧ 1 ≤ p.2 ∧ p.2 ≤ 100) → ∀ q ∈ blks a c l, (0 ≤ q.1 ∧ q.1 ≤ 100) ∧ (0 ≤ q.2.1 ∧ q.2.1 ≤ 100) ∧ (0 ≤ q.2.2.1 ∧ q.2.2.1 ≤ 100) ∧ 0 ≤ q.2.2.2 ∧ q.2.2.2 ≤ 100 := by
  induction l with
  | nil => intro a c _ _ q hq; cases hq
  | cons p l ih =>
    intro a c h1 h2 q hq
    have hp := h2 p (List.mem_cons_self ..)
    rw [blks_gap] at hq
    rcases List.mem_append.mp hq with z | z
    · unfold gap at z
      split at z
      · rw [List.mem_singleton.mp z]
        show (0 ≤ a ∧ a ≤ 100) ∧ (0 ≤ p.1 - 1 ∧ p.1 - 1 ≤ 100) ∧ (0 ≤ c ∧ c ≤ 100) ∧ 0 ≤ p.2 - 1 ∧ p.2 - 1 ≤ 100
        omega
      · cases z
    · exact ih p.1 p.2 (by omega) (fun r hr => h2 r (List.mem_cons_of_mem _ hr)) q z
theorem okD_bd {old new : List Str} {ps : List (Int × Int)} (ho : okT old) (hn : okT new) (h : okD old new ps) : ∀ p ∈ ps, 1 ≤ p.1 ∧ p.1 ≤ 60 ∧ 1 ≤ p.2 ∧ p.2 ≤ 60 := fun p hp => by
  obtain ⟨h1, h2, h3, h4, _⟩ := h.1 p hp
  have := ho.1
  have := hn.1
  omega
theorem blocks_bd {old new : List Str} {ps : List (Int × Int)} (ho : okT old) (hn : okT new) (h : okD old new ps) : ∀ q ∈ blocks old.length new.length ps, (0 ≤ q.1 ∧ q.1 ≤ 100) ∧ (0 ≤ q.2.1 ∧ q.2.1 ≤ 100) ∧ (0 ≤ q.2.2.1 ∧ q.2.2.1 ≤ 100) ∧ 0 ≤ q.2.2.2 ∧ q.2.2.2 ≤ 100 := by
  refine blks_bd _ 0 0 (by omega) fun p hp => ?_
  have := ho.1
  have := hn.1
  rcases List.mem_append.mp hp with z | z
  · have := okD_bd ho hn h p z
    omega
  · rw [List.mem_singleton.mp z]
    show 1 ≤ (old.length : Int) + 1 ∧ (old.length : Int) + 1 ≤ 100 ∧ 1 ≤ (new.length : Int) + 1 ∧ (new.length : Int) + 1 ≤ 100
    omega
theorem blocks_len {old new : List Str} {ps : List (Int × Int)} (ho : okT old) (h : okD old new ps) : (blocks old.length new.length ps).length ≤ 61 := by
  have h1 := blks_len 0 0 (ps ++ [((old.length : Int) + 1, (new.length : Int) + 1)])
  have h2 := okD_len h
  have h3 := ho.1
  simp only [List.length_append, List.length_singleton] at h1
  simp only [blocks]
  omega
theorem rp_int {i : Int} (h : -1000000 ≤ i ∧ i ≤ 1000000) : Rp 0 40 (.int i) := Rp.int (by rw [pow12]; omega)
theorem rp_PR {p : Int × Int} (h1 : -1000000 ≤ p.1 ∧ p.1 ≤ 1000000) (h2 : -1000000 ≤ p.2 ∧ p.2 ≤ 1000000) : Rp 1 82 (PR p) := Rp.tup (RpL.cons (rp_int h1) (RpL.cons (rp_int h2) RpL.nil))
theorem rp_QV {q : Int × Int × Int × Int} (h : (-1000000 ≤ q.1 ∧ q.1 ≤ 1000000) ∧ (-1000000 ≤ q.2.1 ∧ q.2.1 ≤ 1000000) ∧ (-1000000 ≤ q.2.2.1 ∧ q.2.2.1 ≤ 1000000) ∧ -1000000 ≤ q.2.2.2 ∧ q.2.2.2 ≤ 1000000) : Rp 1 164 (QV q) := Rp.tup (RpL.cons (rp_int h.1) (RpL.cons (rp_int h.2.1) (RpL.cons (rp_int h.2.2.1) (RpL.cons (rp_int h.2.2.2) RpL.nil))))
theorem rp_DF {ps : List (Int × Int)} (h : ∀ p ∈ ps, 1 ≤ p.1 ∧ p.1 ≤ 60 ∧ 1 ≤ p.2 ∧ p.2 ≤ 60) (hl : ps.length ≤ 60) : Rp 2 4980 (DF ps) := by
  have := RpL.map (c := PR) (l := ps) (k := 1) (w := 82) fun p hp => by
    have := h p hp
    exact rp_PR (by omega) (by omega)
  exact (Rp.ptp this).mono (by omega) (by omega)
theorem rp_TX {xs : List Str} (h : okT xs) : Rp 1 660 (TX xs) := by
  have := RpL.map (c := D.str) (l := xs) (k := 0) (w := 10) fun x hx => Rp.str (h.2 x hx).2.2 (h.2 x hx).2.1
  have := h.1
  exact (Rp.lst (by assumption)).mono (by omega) (by omega)
theorem repr_DF {ps : List (Int × Int)} (h : ∀ p ∈ ps, 1 ≤ p.1 ∧ p.1 ≤ 60 ∧ 1 ≤ p.2 ∧ p.2 ≤ 60) (hl : ps.length ≤ 60) : ∃ s, reprD (DF ps) = some (.str s) := by
  refine repr_of (rp_DF h hl) (fun p hp => ?_) (by omega) (by omega)
  simp only [DF, py, Option.map_eq_some_iff] at hp
  obtain ⟨ps, _, rfl⟩ := hp
  rfl
theorem repr_two {d : D} (h : Rp 2 4980 d) : ∃ s, reprD (.lst [d, d]) = some (.str s) ∧ reprD (.own [d, d]) = some (.str s) := repr_lst (RpL.cons h (RpL.cons h RpL.nil)) (by omega) (by omega)
theorem repr_three {a b c : D} (h : Rp 2 4980 a) (h2 : Rp 2 4980 b) (h3 : Rp 2 4980 c) : ∃ s, reprD (.lst [a, b, c]) = some (.str s) ∧ reprD (.own [a, b, c]) = some (.str s) := repr_lst (RpL.cons h (RpL.cons h2 (RpL.cons h3 RpL.nil))) (by omega) (by omega)
theorem repr_QVs {l : List (Int × Int × Int × Int)} (h : ∀ q ∈ l, (-1000000 ≤ q.1 ∧ q.1 ≤ 1000000) ∧ (-1000000 ≤ q.2.1 ∧ q.2.1 ≤ 1000000) ∧ (-1000000 ≤ q.2.2.1 ∧ q.2.2.1 ≤ 1000000) ∧ -1000000 ≤ q.2.2.2 ∧ q.2.2.2 ≤ 1000000) (hl : l.length ≤ 61) : ∃ s, reprD (.lst (l.map QV)) = some (.str s) ∧ reprD (.own (l.map QV)) = some (.str s) :=
  repr_lst (RpL.map (c := QV) (l := l) (k := 1) (w := 164) fun q hq => rp_QV (h q hq)) (by omega) (by omega)
theorem frz_qvs {l : List (Int × Int × Int × Int)} : (D.own (l.map QV)).frz = .lst (l.map QV) := by simp only [D.frz, frzL_eq, List.map_map]; rfl
theorem val_OC {e : Mx.Env} {pl : Int × Int} {own : List (Str × (Int × Int))} : val e (OC pl own) = some (CO pl own) := rfl
end Lw
set_option Elab.async false
set_option linter.all false
set_option maxRecDepth 100000
set_option maxHeartbeats 1000000
namespace Lw
open PySem L2 Mx
/-! ### k14: the numbers of lines by the blocks -/
def lns (lo hi : Int) : List Int := (List.range (hi + 1 - lo).toNat).map fun k : Nat => lo + (k : Int)
theorem mem_lns {lo hi x : Int} : x ∈ lns lo hi ↔ lo ≤ x ∧ x ≤ hi := by
  simp only [lns, List.mem_map, List.mem_range]
  refine ⟨?_, fun h => ⟨(x - lo).toNat, by omega, by omega⟩⟩
  rintro ⟨k, hk, rfl⟩
  omega
theorem lns_split {lo i hi : Int} (h1 : lo ≤ i) (h2 : i ≤ hi) : lns lo hi = lns lo (i - 1) ++ i :: lns (i + 1) hi := by
  have e : (hi + 1 - lo).toNat = (i - lo).toNat + (1 + (hi - i).toNat) := by omega
  simp only [lns]
  rw [e, List.range_add, List.map_append, List.range_add, List.map_append, List.map_append]
  congr 1
  · rw [show i - 1 + 1 - lo = i - lo by omega]
  · rw [show hi + 1 - (i + 1) = hi - i by omega]
    simp only [List.range_one, List.map_cons, List.map_nil, List.singleton_append, List.map_map]
    congr 1
    · omega
    · refine List.map_congr_left fun k _ => ?_
      simp only [Function.comp]
      omega
theorem lns_nil {lo hi : Int} (h : hi < lo) : lns lo hi = [] := by
  simp only [lns, show (hi + 1 - lo).toNat = 0 by omega, List.range_zero, List.map_nil]
theorem without_lns (n : Nat) (is : List Int) : without n is = (lns 1 n).filter fun i => !decide (i ∈ is) := by
  simp only [without, lns, show ((n : Int) + 1 - 1).toNat = n by omega]
def goes (l : List (Int × Int × Int × Int)) : List Int := l.flatMap fun q => lns (q.1 + 1) q.2.1
def comes (l : List (Int × Int × Int × Int)) : List Int := l.flatMap fun q => lns (q.2.2.1 + 1) q.2.2.2
theorem goes_gap {a c : Int} {p : Int × Int} (h1 : a < p.1) (h2 : c < p.2) : goes (gap (a, c) p) = lns (a + 1) (p.1 - 1) ∧ comes (gap (a, c) p) = lns (c + 1) (p.2 - 1) := by
  unfold gap
  split
  · simp [goes, comes]
  · rename_i h
    simp only [ne_eq, Prod.mk.injEq, not_and, Classical.not_imp, Classical.not_not] at h
    simp only [goes, comes, List.flatMap_nil]
    rw [lns_nil (by omega), lns_nil (by omega)]
    exact ⟨rfl, rfl⟩
theorem goes_app (l k : List (Int × Int × Int × Int)) : goes (l ++ k) = goes l ++ goes k ∧ comes (l ++ k) = comes l ++ comes k := by simp [goes, comes]
theorem filter_lns {lo hi i : Int} {is : List Int} (h1 : lo ≤ i) (h2 : i ≤ hi) (h : ∀ j ∈ is, i < j) : (lns lo hi).filter (fun x => !decide (x ∈ i :: is)) = lns lo (i - 1) ++ (lns (i + 1) hi).filter fun x => !decide (x ∈ is) := by
  rw [lns_split h1 h2, List.filter_append, List.filter_cons]
  have e1 : (lns lo (i - 1)).filter (fun x => !decide (x ∈ i :: is)) = lns lo (i - 1) := by
    refine List.filter_eq_self.mpr fun x hx => ?_
    have := mem_lns.mp hx
    simp only [Bool.not_eq_true', decide_eq_false_iff_not, List.mem_cons, not_or]
    exact ⟨by omega, fun z => by have := h x z; omega⟩
  have e2 : (lns (i + 1) hi).filter (fun x => !decide (x ∈ i :: is)) = (lns (i + 1) hi).filter fun x => !decide (x ∈ is) := by
    refine List.filter_congr fun x hx => ?_
    have := mem_lns.mp hx
    have ne : x ≠ i := by omega
    simp [ne]
  rw [e1, e2]
  simp
theorem goes_blks (m n : Int) : ∀ (ps : List (Int × Int)) (a c : Int), ps.Pairwise (fun p q => p.1 < q.1 ∧ p.2 < q.2) → (∀ p ∈ ps, a < p.1 ∧ p.1 ≤ m ∧ c < p.2 ∧ p.2 ≤ n) → a ≤ m → c ≤ n →
    goes (blks a c (ps ++ [(m + 1, n + 1)])) = (lns (a + 1) m).filter (fun x => !decide (x ∈ ps.map (·.1))) ∧ comes (blks a c (ps ++ [(m + 1, n + 1)])) = (lns (c + 1) n).filter fun x => !decide (x ∈ ps.map (·.2))
  | [], a, c, _, _, ha, hc => by
    obtain ⟨g1, g2⟩ := goes_gap (a := a) (c := c) (p := (m + 1, n + 1)) (by show a < m + 1; omega) (by show c < n + 1; omega)
    rw [List.nil_append, blks_gap, (goes_app _ _).1, (goes_app _ _).2, g1, g2]
    simp [blks, goes, comes]
    exact ⟨(List.filter_eq_self.mpr fun _ _ => rfl).symm, (List.filter_eq_self.mpr fun _ _ => rfl).symm⟩
  | p :: ps, a, c, hp, h, ha, hc => by
    obtain ⟨h1, h2, h3, h4⟩ := h p (List.mem_cons_self ..)
    obtain ⟨p1, p2⟩ := List.pairwise_cons.mp hp
    obtain ⟨i1, i2⟩ := goes_blks m n ps p.1 p.2 p2 (fun q hq => ⟨(p1 q hq).1, (h q (List.mem_cons_of_mem _ hq)).2.1, (p1 q hq).2, (h q (List.mem_cons_of_mem _ hq)).2.2.2⟩) h2 h4
    obtain ⟨g1, g2⟩ := goes_gap h1 h3
    rw [List.cons_append, blks_gap, (goes_app _ _).1, (goes_app _ _).2, g1, g2, i1, i2, List.map_cons, List.map_cons]
    rw [filter_lns (by omega) h2 (fun j hj => by
      obtain ⟨q, hq, rfl⟩ := List.mem_map.mp hj
      exact (p1 q hq).1), filter_lns (by omega) h4 (fun j hj => by
      obtain ⟨q, hq, rfl⟩ := List.mem_map.mp hj
      exact (p1 q hq).2)]
    exact ⟨rfl, rfl⟩
theorem goes_blocks {old new : List Str} {ps : List (Int × Int)} (h : okD old new ps) : goes (blocks old.length new.length ps) = without old.length (ps.map (·.1)) ∧ comes (blocks old.length new.length ps) = without new.length (ps.map (·.2)) := by
  obtain ⟨g1, g2⟩ := goes_blks old.length new.length ps 0 0 h.2 (fun p hp => by
    obtain ⟨h1, h2, h3, h4, _⟩ := h.1 p hp
    omega) (by omega) (by omega)
  rw [without_lns, without_lns]
  exact ⟨g1, g2⟩
/-- the kept ones and the others are all -/
theorem all_perm {n : Nat} {is : List Int} (hn : is.Pairwise (· < ·)) (h : ∀ i ∈ is, 1 ≤ i ∧ i ≤ n) : (without n is ++ is).Perm (lns 1 n) := by
  refine perm_of_mem ?_ ?_ fun i => ?_
  · refine List.nodup_append.mpr ⟨nodup_without n is, hn.imp fun z => by omega, fun a ha b hb e => ?_⟩
    subst e
    exact (mem_without'.mp ha).2 hb
  · have := nodup_without n []
    rw [without_lns, List.filter_eq_self.mpr (fun _ _ => by simp)] at this
    exact this
  · rw [List.mem_append, mem_without', mem_lns]
    constructor
    · rintro (⟨z, _⟩ | z)
      · exact z
      · exact h i z
    · intro z
      by_cases q : i ∈ is
      · exact .inr q
      · exact .inl ⟨z, q⟩
theorem lns_srt (lo hi : Int) : (lns lo hi).Pairwise (· ≤ ·) := by
  simp only [lns]
  rw [List.pairwise_map]
  exact List.pairwise_lt_range.imp fun h => by omega
theorem srt_all {n : Nat} {is : List Int} (hn : is.Pairwise (· < ·)) (h : ∀ i ∈ is, 1 ≤ i ∧ i ≤ n) : srtI (without n is ++ is) = lns 1 n :=
  srtI_uniq ((srtI_perm _).trans (all_perm hn h)) (srtI_srt _) (lns_srt _ _)
theorem len_all {n : Nat} {is : List Int} (hn : is.Pairwise (· < ·)) (h : ∀ i ∈ is, 1 ≤ i ∧ i ≤ n) : (without n is).length + is.length = n := by
  have := (all_perm hn h).length_eq
  simp only [List.length_append, lns, List.length_map, List.length_range] at this
  omega
theorem okD_fst {old new : List Str} {ps : List (Int × Int)} (h : okD old new ps) : (ps.map (·.1)).Pairwise (· < ·) ∧ (∀ i : Int, i ∈ ps.map (·.1) → 1 ≤ i ∧ i ≤ old.length) := by
  refine ⟨List.pairwise_map.mpr (h.2.imp fun z => z.1), fun i hi => ?_⟩
  obtain ⟨p, hp, rfl⟩ := List.mem_map.mp hi
  obtain ⟨h1, h2, _⟩ := h.1 p hp
  exact ⟨h1, h2⟩
theorem okD_snd {old new : List Str} {ps : List (Int × Int)} (h : okD old new ps) : (ps.map (·.2)).Pairwise (· < ·) ∧ (∀ i : Int, i ∈ ps.map (·.2) → 1 ≤ i ∧ i ≤ new.length) := by
  refine ⟨List.pairwise_map.mpr (h.2.imp fun z => z.2), fun i hi => ?_⟩
  obtain ⟨p, hp, rfl⟩ := List.mem_map.mp hi
  obtain ⟨_, _, h1, h2, _⟩ := h.1 p hp
  exact ⟨h1, h2⟩
/-- a diff as a dict -/
def MK (ps : List (Int × Int)) : List Key := ps.map fun p => Sum.inl p.1
def MV (ps : List (Int × Int)) : List D := ps.map fun p => .int p.2
/-- a line's partner, or none -/
def mate (ps : List (Int × Int)) (i : Int) : D := (getKey (MK ps) (MV ps) (.inl i)).getD .non
theorem pairI_PR (p : Int × Int) : pairI (PR p) = some (.inl p.1, .int p.2) := rfl
theorem prsI_PR (ps : List (Int × Int)) : prsI (ps.map PR) = some (ps.map fun p => (Sum.inl p.1, D.int p.2)) := by
  induction ps with
  | nil => rfl
  | cons p ps ih => simp only [List.map_cons, prsI, pairI_PR, ih, Option.map_some]
theorem ndK_MK {ps : List (Int × Int)} (h : (ps.map (·.1)).Pairwise (· < ·)) : ndK (MK ps) = true := by
  induction ps with
  | nil => rfl
  | cons p ps ih =>
    rw [List.map_cons] at h
    obtain ⟨h1, h2⟩ := List.pairwise_cons.mp h
    simp only [MK, List.map_cons, ndK, Bool.and_eq_true, List.all_eq_true, decide_eq_true_eq]
    refine ⟨fun k hk z => ?_, ih h2⟩
    obtain ⟨q, hq, rfl⟩ := List.mem_map.mp hk
    have := h1 q.1 (List.mem_map.mpr ⟨q, hq, rfl⟩)
    simp only [Sum.inl.injEq] at z
    omega
theorem put_new2 {j : Key} {y : D} : ∀ {ks : List Key} {xs : List D}, ks.length = xs.length → j ∉ ks → putKey ks xs j y = some (ks ++ [j], xs ++ [y])
  | [], [], _, _ => rfl
  | [], _ :: _, h, _ => by simp at h
  | _ :: _, [], h, _ => by simp at h
  | k :: ks, x :: xs, hl, h => by
    have e := put_new2 (j := j) (y := y) (ks := ks) (xs := xs) (by simpa using hl) fun z => h (List.mem_cons_of_mem _ z)
    have n : k ≠ j := fun z => h (z ▸ List.mem_cons_self ..)
    simp only [putKey, n, if_false, e, List.cons_append]
theorem mergeD_new : ∀ (l acc : List (Int × Int)), ((acc ++ l).map (·.1)).Pairwise (· < ·) → mergeD (MK acc) (MV acc) (l.map fun p => (Sum.inl p.1, D.int p.2)) = some (MK (acc ++ l), MV (acc ++ l))
  | [], acc, _ => by simp [mergeD]
  | p :: l, acc, h => by
    have h' : ((acc ++ [p] ++ l).map (·.1)).Pairwise (· < ·) := by simpa using h
    have h2 : (acc.map (·.1)).Pairwise (· < ·) := by
      rw [List.map_append] at h
      exact (List.pairwise_append.mp h).1
    have np : (Sum.inl p.1 : Key) ∉ MK acc := by
      rw [List.map_append, List.map_cons] at h
      intro z
      obtain ⟨q, hq, e⟩ := List.mem_map.mp z
      have := (List.pairwise_append.mp h).2.2 q.1 (List.mem_map.mpr ⟨q, hq, rfl⟩) p.1 (List.mem_cons_self ..)
      simp only [Sum.inl.injEq] at e
      omega
    simp only [List.map_cons, mergeD, ndK_MK h2, if_true, put_new2 (show (MK acc).length = (MV acc).length by simp [MK, MV]) np]
    have := mergeD_new l (acc ++ [p]) h'
    simp only [MK, MV, List.map_append, List.map_cons, List.map_nil, List.append_assoc, List.singleton_append] at this ⊢
    exact this
theorem dict_DF {ps : List (Int × Int)} (h : (ps.map (·.1)).Pairwise (· < ·)) : dictA (DF ps) = some (.odct (MK ps) (MV ps)) := by
  have m := mergeD_new ps [] (by simpa using h)
  simp only [MK, MV, List.map_nil, List.nil_append] at m
  simp only [dictA, DF, dictI, prsI_PR, Option.bind_some, m, Option.map_some]
  rfl
theorem dictI_MK (ps : List (Int × Int)) : dictI (.odct (MK ps) (MV ps)) = some (MK ps, MV ps) := by
  have hz : fzL (MV ps) = true := fzL_map (fun _ => rfl) ps
  simp only [dictI, hz, if_true]
theorem mate_is {ps : List (Int × Int)} (h : ∀ p ∈ ps, 1 ≤ p.2 ∧ p.2 ≤ 60) (i : Int) : mate ps i = .non ∨ ∃ j : Int, mate ps i = .int j ∧ 1 ≤ j ∧ j ≤ 60 := by
  unfold mate
  induction ps with
  | nil => exact .inl rfl
  | cons p ps ih =>
    simp only [MK, MV, List.map_cons, getKey]
    split
    · have := h p (List.mem_cons_self ..)
      exact .inr ⟨p.2, rfl, this⟩
    · exact ih fun q hq => h q (List.mem_cons_of_mem _ hq)
end Lw
set_option Elab.async false
set_option linter.all false
set_option maxRecDepth 100000
set_option maxHeartbeats 1000000
namespace Lw
open PySem L2 Mx
local macro_rules | `(tactic| walk_at "leaf") => `(tactic| exact rfl)
local macro_rules | `(tactic| walk_at "one") => `(tactic| first
  | with_reducible assumption
  | with_reducible exact small_le (by omega) (by omega)
  | with_reducible apply w_fn
  | with_reducible apply w_finN
  | with_reducible apply w_finR
  | with_reducible apply w_seqN
  | with_reducible exact w_seqR
  | with_reducible exact w_seqB
  | with_reducible exact w_seqC
  | with_reducible apply w_seq
  | with_reducible exact w_skip
  | with_reducible exact w_brk
  | with_reducible exact w_cnt
  | with_reducible exact w_retN
  | with_reducible apply w_if
  | with_reducible apply w_ret
  | with_reducible apply w_set
  | with_reducible apply w_drop
  | with_reducible apply w_frz
  | with_reducible apply w_asg
  | with_reducible apply w_par2
  | with_reducible apply w_par3
  | with_reducible apply cs_T
  | with_reducible apply cs_F
  | with_reducible apply cs_nT
  | with_reducible apply cs_nF
  | with_reducible refine' cs_Td (by assumption) ?_
  | with_reducible refine' cs_Fd (by assumption) ?_
  | with_reducible refine' cs_nTd (by assumption) ?_
  | with_reducible refine' cs_nFd (by assumption) ?_
  | with_reducible refine' cs_Th (by assumption) ?_
  | with_reducible refine' cs_Fh (by assumption) ?_
  | with_reducible refine' cs_Td (by omega) ?_
  | with_reducible refine' cs_Fd (by omega) ?_
  | with_reducible exact cs_not
  | with_reducible apply w_op
  | with_reducible apply w_un
  | with_reducible apply w_bool
  | with_reducible apply w_and
  | with_reducible apply w_or
  | with_reducible apply w_not
  | with_reducible apply w_andV
  | with_reducible apply w_orV
  | with_reducible apply w_notV
  | with_reducible apply w_ifM
  | with_reducible apply w_cons
  | with_reducible exact w_nil
  | with_reducible exact w_cst
  | with_reducible exact w_yes
  | with_reducible apply w_tup
  | with_reducible apply w_lst
  | with_reducible exact w_var rfl
  | with_reducible apply w_mov
  | with_reducible apply w_vfz
  | with_reducible apply w_fz
  | with_reducible apply w_vals
  | with_reducible exact w_vals0
  | with_reducible apply w_app
  | with_reducible apply w_slNS
  | with_reducible apply w_lrg2
  | with_reducible apply w_get1
  | with_reducible apply w_get2
  | with_reducible apply w_own
  | with_reducible apply w_apo
  | with_reducible apply w_forAp
  | with_reducible apply w_slSN
  | with_reducible apply w_slSS
  | with_reducible apply w_slNN
  | with_reducible apply w_seqIt
  | with_reducible apply w_rng1
  | with_reducible apply w_rng2
  | with_reducible apply w_enum
  | with_reducible apply w_items
  | with_reducible apply w_zip
  | with_reducible apply w_gname
  | with_reducible apply w_gcons
  | with_reducible exact w_gnil
  | with_reducible apply w_gsub
  | apply w_gtup
  | with_reducible apply w_callM
  | with_reducible apply w_callV
  | with_reducible apply w_methV
  | with_reducible apply w_make
  | with_reducible exact lt_ble rfl
  | with_reducible exact le_ble rfl
  | with_reducible exact ls0
  | with_reducible exact ls1
  | with_reducible exact ls2
  | with_reducible exact ls3
  | with_reducible exact ls4
  | with_reducible exact ls5
  | with_reducible exact ls6
  | with_reducible exact ls7
  | with_reducible exact ls8
  | with_reducible exact ls9
  | with_reducible exact ls10
  | with_reducible exact ls11
  | with_reducible exact ls12
  | with_reducible exact ls13
  | with_reducible exact ls14
  | with_reducible exact ls15
  | with_reducible exact ls16
  | with_reducible exact ls17
  | with_reducible exact ls18
  | with_reducible exact ls19
  | with_reducible exact ls20
  | with_reducible exact ls21
  | with_reducible exact ls22
  | with_reducible exact ls23
  | with_reducible exact ls24
  | with_reducible exact ls25
  | with_reducible exact pk0
  | with_reducible exact pk1
  | with_reducible exact pk2
  | with_reducible exact pk3
  | with_reducible exact pk4
  | with_reducible exact pk5
  | with_reducible exact pk6
  | with_reducible exact pk7
  | with_reducible exact pk8
  | with_reducible apply env_cons
  | with_reducible exact rp0
  | with_reducible exact rp1
  | with_reducible exact rp2
  | with_reducible exact rp3
  | with_reducible exact rp4
  | with_reducible exact rp5
  | with_reducible exact rp6
  | with_reducible exact rp7
  | with_reducible exact rp8
  | with_reducible exact rp9
  | with_reducible exact rp10
  | with_reducible exact rp11
  | with_reducible exact rp12
  | with_reducible exact rp13
  | with_reducible exact rp14
  | with_reducible exact rp15
  | with_reducible exact rp16
  | with_reducible exact rp17
  | with_reducible exact rp18
  | with_reducible exact rp19
  | with_reducible exact rp20
  | with_reducible exact rp21
  | with_reducible exact rp22
  | with_reducible exact rp23
  | with_reducible exact rp24
  | with_reducible exact rp25
  | with_reducible exact pk_sw2
  | with_reducible exact pk_sw3
  | with_reducible exact w_derf rfl
  | ((with_reducible apply w_valrf) <;> exact rfl)
  | with_reducible exact w_valrf rfl (by assumption)
  | ((with_reducible refine val_of ?_); exact rfl)
  | ((with_reducible refine notin_of ?_); decide)
  | ((with_reducible refine val_ownL ?_); exact rfl)
  | ((with_reducible refine deref_of ?_); exact rfl)
  | ((with_reducible apply w_puvf) <;> exact rfl)
  | with_reducible exact w_puvf rfl (by assumption)
  | ((with_reducible refine putV_of ?_); exact rfl)
  | walk_at "leaf")
local macro_rules | `(tactic| walk_at "go") => `(tactic| repeat' (walk_at "one"))
local macro_rules | `(tactic| walk_at "leaf") => `(tactic| first
  | with_reducible exact la_TX _
  | with_reducible exact val_OC
  | with_reducible exact val_ints
  | with_reducible exact val_prs
  | with_reducible exact val_strs
  | with_reducible exact val_qvs
  | with_reducible exact frz_qvs
  | with_reducible exact eq_same
  | with_reducible exact ne_same
  | with_reducible exact ne_nil _
  | with_reducible exact eq_int _ _
  | with_reducible exact ne_int _ _
  | with_reducible exact cmp_int
  | with_reducible exact lt_int
  | with_reducible exact add_int
  | with_reducible exact sub_int
  | with_reducible exact seq_TX
  | with_reducible exact seq_DF
  | with_reducible exact seq_ints
  | with_reducible exact seq_qvs
  | with_reducible exact fz_prs0
  | with_reducible exact tuple_prs
  | with_reducible exact dictI_MK _
  | exact rfl)
theorem pick_cost {a b : Int} {xs : List Int} (h : okPot a b) (hn : 0 < xs.length) (hl : xs.length ≤ 100) (hx : ∀ x ∈ xs, 1 ≤ x ∧ x ≤ 999999) : ∃ a' b' i, f__law_pick [POT a b, .lst (xs.map IN)] = .ok (.int i) [POT a' b', .lst (xs.map IN)] ∧ okPot a' b' ∧ 1 ≤ i ∧ i ≤ 999999 := by
  obtain ⟨a', b', x, p1, p2, p3⟩ := pick_ok (ds := xs.map IN) h (by simpa using hn) (by simp; omega) (fzL_map (f := IN) (fun _ => rfl) _) (fun x hx => by
    obtain ⟨z, _, rfl⟩ := List.mem_map.mp hx
    rfl)
  obtain ⟨i, hi, rfl⟩ := List.mem_map.mp p3
  exact ⟨a', b', i, p1, p2, hx i hi⟩
theorem L_costs_ok {a b : Int} {own : List (Str × (Int × Int))} {x : Str} (h : okPot a b) (ho : okO own) (hl : own.length < 60) (hx : okS x) : ∃ a' b' own', L__law_costs_1 [some (POT a b), some (.odct (KS own) (VS own)), some (.str x)] = .nx [some (POT a' b'), some (.odct (KS own') (VS own')), some (.str x)] ∧ okPot a' b' ∧ okO own' ∧ own'.length ≤ own.length + 1 := by
  obtain ⟨a1, b1, r, p1, p2, p3, p4⟩ := draw_ok (m := 3) h (by decide)
  by_cases hr : r = 0
  · obtain ⟨a2, b2, i, q1, q2, q3⟩ := pick_cost (xs := [1, 5, 999999]) p2 (by decide) (by decide) (by decide)
    obtain ⟨a3, b3, j, r1, r2, r3⟩ := pick_cost (xs := [1, 7, 999999]) q2 (by decide) (by decide) (by decide)
    have q1 : f__law_pick [POT a1 b1, .lst [.int 1, .int 5, .int 999999]] = .ok (.int i) [POT a2 b2, .lst [.int 1, .int 5, .int 999999]] := q1
    have r1 : f__law_pick [POT a2 b2, .lst [.int 1, .int 7, .int 999999]] = .ok (.int j) [POT a3 b3, .lst [.int 1, .int 7, .int 999999]] := r1
    refine ⟨a3, b3, putO own x (i, j), ?_, r2, putO_ok ho hl hx ⟨q3, r3⟩, putO_len _ _ _⟩
    have pd : putD (.str x) (.tup [.int i, .int j]) (.odct (KS own) (VS own)) = some (.odct (KS (putO own x (i, j))) (VS (putO own x (i, j)))) := by
      have hk : (KS own).length < 1000000 := by simp [KS]; omega
      have := putKey_own own x (i, j)
      simp only [PR] at this
      simp only [putD, keyI, fz_VS, KS_nd ho.1, hk, and_self, if_true, this, Option.map_some]
    unfold L__law_costs_1
    walk_at "go"
  · refine ⟨a1, b1, own, ?_, p2, ho, by omega⟩
    unfold L__law_costs_1
    walk_at "go"
def CW : List Str := ["a", "", "keep", "-"]
theorem okCW : ∀ x ∈ CW, okS x := by
  intro x h
  have e : (CW.all fun x => decide ((10 : Nat) ∉ x.cps.toList) && decide (x.length ≤ 10) && PyData.strOk x) = true := by decide +kernel
  exact okS_of (List.all_eq_true.mp e x h)
theorem F_costs_ok {a b : Int} (h : okPot a b) : ∃ a' b' own z, F__law_costs_1 [some (POT a b), some (.odct [] []), none] = .nx [some (POT a' b'), some (.odct (KS own) (VS own)), z] ∧ okPot a' b' ∧ okO own := by
  obtain ⟨e', R, a1, b1, own, z, o1, o2, o3, rfl⟩ := forL_ind (g := nameG 2) (b := L__law_costs_1) (fun n e => ∃ a b own z, okPot a b ∧ okO own ∧ own.length ≤ n ∧ e = [some (POT a b), some (.odct (KS own) (VS own)), z]) (CW.map .str) 0 [some (POT a b), some (.odct [] []), none] (fun j d hd e he => by
    obtain ⟨a, b, own, z, o1, o2, o3, rfl⟩ := he
    obtain ⟨x, hx, rfl⟩ := List.mem_map.mp (List.mem_of_getElem? hd)
    have hj : j < 4 := by
      have := (List.getElem?_eq_some_iff.mp hd).1
      simpa [CW] using this
    obtain ⟨a', b', own', t1, t2, t3, t4⟩ := L_costs_ok o1 o2 (by omega) (okCW x hx)
    exact ⟨_, _, rfl, .inl t1, a', b', own', _, t2, t3, by omega, rfl⟩) ⟨a, b, [], none, h, ⟨by simp, by simp, by simp⟩, by simp, rfl⟩
  refine ⟨a1, b1, own, z, ?_, o1, o2⟩
  unfold F__law_costs_1
  apply w_for (h2 := R)
  rfl
theorem law_costs_ok {a b : Int} (h : okPot a b) : ∃ a' b' pl own, f__law_costs [POT a b] = .ok (.tup [.int pl.1, .int pl.2, DC own]) [POT a' b'] ∧ okPot a' b' ∧ okC pl ∧ okO own := by
  obtain ⟨a1, b1, own, z, f1, f2, f3⟩ := F_costs_ok h
  obtain ⟨a2, b2, i, q1, q2, q3⟩ := pick_cost (xs := [1, 1, 2, 999999]) f2 (by decide) (by decide) (by decide)
  obtain ⟨a3, b3, j, r1, r2, r3⟩ := pick_cost (xs := [1, 1, 3, 999999]) q2 (by decide) (by decide) (by decide)
  have q1 : f__law_pick [POT a1 b1, .lst [.int 1, .int 1, .int 2, .int 999999]] = .ok (.int i) [POT a2 b2, .lst [.int 1, .int 1, .int 2, .int 999999]] := q1
  have r1 : f__law_pick [POT a2 b2, .lst [.int 1, .int 1, .int 3, .int 999999]] = .ok (.int j) [POT a3 b3, .lst [.int 1, .int 1, .int 3, .int 999999]] := r1
  refine ⟨a3, b3, (i, j), own, ?_, r2, ⟨q3, r3⟩, f3⟩
  have hz : (D.odct (KS own) (VS own)).frz = DC own := by simp only [D.frz, frz_VS]; rfl
  have fD : (DC own).fz = true := rfl
  unfold f__law_costs b__law_costs
  walk_at "go"
/-! ### the law's own blocks -/
theorem L_blocks_ok {A B C : Option D} {acc : List (Int × Int × Int × Int)} (hl : acc.length < 1000000) {a c i j : Int} (h1 : a ≤ i - 1) (h2 : c ≤ j - 1) : L__law_blocks_1 [A, B, C, some (.own (acc.map QV)), some (.int a), some (.int c), some (.int i), some (.int j)] = .nx [A, B, C, some (.own ((acc ++ gap (a, c) (i, j)).map QV)), some (.int i), some (.int j), some (.int i), some (.int j)] := by
  have hf := fz_qv acc
  have hl2 : (acc.map QV).length < 1000000 := by simpa using hl
  by_cases p : a < i - 1
  · have g : gap (a, c) (i, j) = [(a, i - 1, c, j - 1)] := by
      unfold gap
      rw [if_pos (by simp; omega)]
    rw [g, List.map_append]
    unfold L__law_blocks_1
    walk_at "go"
  · by_cases q : c < j - 1
    · have g : gap (a, c) (i, j) = [(a, i - 1, c, j - 1)] := by
        unfold gap
        rw [if_pos (by simp; omega)]
      rw [g, List.map_append]
      unfold L__law_blocks_1
      walk_at "go"
    · have g : gap (a, c) (i, j) = [] := by
        unfold gap
        rw [if_neg (by simp; omega)]
      rw [g, List.append_nil]
      unfold L__law_blocks_1
      walk_at "go"
theorem loop_blocks {A B C : Option D} : ∀ (l : List (Int × Int)) (acc : List (Int × Int × Int × Int)) (a c : Int) (x y : Option D), acc.length + l.length < 1000000 → l.Pairwise (fun p q => p.1 < q.1 ∧ p.2 < q.2) → (∀ p ∈ l, a < p.1 ∧ c < p.2) → ∃ a' c' x' y', forL (tupG 2 (consG (nameG 6) (consG (nameG 7) nilG))) L__law_blocks_1 (l.map PR) [A, B, C, some (.own (acc.map QV)), some (.int a), some (.int c), x, y] = .nx [A, B, C, some (.own ((acc ++ blks a c l).map QV)), some (.int a'), some (.int c'), x', y']
  | [], acc, a, c, x, y, _, _, _ => ⟨a, c, x, y, by simp [forL, blks]⟩
  | p :: l, acc, a, c, x, y, h, hp, hb => by
    simp only [List.length_cons] at h
    obtain ⟨b1, b2⟩ := hb p (List.mem_cons_self ..)
    obtain ⟨p1, p2⟩ := List.pairwise_cons.mp hp
    have t := L_blocks_ok (A := A) (B := B) (C := C) (acc := acc) (by omega) (a := a) (c := c) (i := p.1) (j := p.2) (by omega) (by omega)
    have hl : (gap (a, c) (p.1, p.2)).length ≤ 1 := by unfold gap; split <;> simp
    obtain ⟨a', c', x', y', r⟩ := loop_blocks l (acc ++ gap (a, c) (p.1, p.2)) p.1 p.2 (some (.int p.1)) (some (.int p.2)) (by rw [List.length_append]; omega) p2 p1
    refine ⟨a', c', x', y', ?_⟩
    rw [List.map_cons]
    rw [forL, show tupG 2 (consG (nameG 6) (consG (nameG 7) nilG)) (PR p) [A, B, C, some (.own (acc.map QV)), some (.int a), some (.int c), x, y] = some [A, B, C, some (.own (acc.map QV)), some (.int a), some (.int c), some (.int p.1), some (.int p.2)] from rfl]
    simp only [t]
    rw [r, blks_gap, List.append_assoc]
theorem list_DF {ps : List (Int × Int)} : listD (DF ps) = some (.own (ps.map PR)) := rfl
theorem add_prs {ps : List (Int × Int)} {p : Int × Int} (h : ps.length ≤ 1000) : addD (.own (ps.map PR)) (.own [PR p]) = some (.own ((ps ++ [p]).map PR)) := by
  have f1 : fzL (ps.map PR) = true := fz_prs0
  have f2 : fzL [PR p] = true := rfl
  have hb : (ps.map PR).length + [PR p].length ≤ big := by simp [big]; omega
  simp only [addD, lstT, f1, f2, if_true, hb, List.map_append, List.map_cons, List.map_nil]
theorem law_blocks_ok {old new : List Str} {ps : List (Int × Int)} (ho : okT old) (h : okD old new ps) : f__law_blocks [TX old, TX new, DF ps] = .ok (.own ((blocks old.length new.length ps).map QV)) [TX old, TX new, DF ps] := by
  have hlen : ps.length ≤ 60 := by have := okD_len h; have := ho.1; omega
  have hp : (ps ++ [((old.length : Int) + 1, (new.length : Int) + 1)]).Pairwise (fun p q => p.1 < q.1 ∧ p.2 < q.2) := by
    refine List.pairwise_append.mpr ⟨h.2, List.pairwise_singleton _ _, fun p hp q hq => ?_⟩
    obtain ⟨h1, h2, h3, h4, _⟩ := h.1 p hp
    rw [List.mem_singleton.mp hq]
    show p.1 < (old.length : Int) + 1 ∧ p.2 < (new.length : Int) + 1
    omega
  have hb : ∀ p ∈ ps ++ [((old.length : Int) + 1, (new.length : Int) + 1)], (0 : Int) < p.1 ∧ (0 : Int) < p.2 := fun p hp => by
    rcases List.mem_append.mp hp with z | z
    · obtain ⟨h1, h2, h3, h4, _⟩ := h.1 p z
      omega
    · rw [List.mem_singleton.mp z]
      show (0 : Int) < (old.length : Int) + 1 ∧ (0 : Int) < (new.length : Int) + 1
      omega
  obtain ⟨a', c', x', y', R⟩ := loop_blocks (A := some (TX old)) (B := some (TX new)) (C := some (DF ps)) (ps ++ [((old.length : Int) + 1, (new.length : Int) + 1)]) [] 0 0 none none (by simp; omega) hp hb
  have ad := add_prs (ps := ps) (p := ((old.length : Int) + 1, (new.length : Int) + 1)) (by omega)
  have ls := list_DF (ps := ps)
  have R : forL (tupG 2 (consG (nameG 6) (consG (nameG 7) nilG))) L__law_blocks_1 ((ps ++ [((old.length : Int) + 1, (new.length : Int) + 1)]).map PR) [some (TX old), some (TX new), some (DF ps), some (.own []), some (.int 0), some (.int 0), none, none] = .nx [some (TX old), some (TX new), some (DF ps), some (.own ((blocks old.length new.length ps).map QV)), some (.int a'), some (.int c'), x', y'] := R
  have F : F__law_blocks_1 [some (TX old), some (TX new), some (DF ps), some (.own []), some (.int 0), some (.int 0), none, none] = .nx [some (TX old), some (TX new), some (DF ps), some (.own ((blocks old.length new.length ps).map QV)), some (.int a'), some (.int c'), x', y'] := by
    unfold F__law_blocks_1
    apply w_for (h2 := R)
    simp only [PR] at ad
    walk_at "go"
  unfold f__law_blocks b__law_blocks
  walk_at "go"
end Lw
set_option Elab.async false
set_option linter.all false
set_option maxRecDepth 100000
set_option maxHeartbeats 1000000
namespace Lw
open PySem L2 Mx
local macro_rules | `(tactic| walk_at "leaf") => `(tactic| exact rfl)
local macro_rules | `(tactic| walk_at "one") => `(tactic| first
  | with_reducible assumption
  | with_reducible exact small_le (by omega) (by omega)
  | with_reducible apply w_fn
  | with_reducible apply w_finN
  | with_reducible apply w_finR
  | with_reducible apply w_seqN
  | with_reducible exact w_seqR
  | with_reducible exact w_seqB
  | with_reducible exact w_seqC
  | with_reducible apply w_seq
  | with_reducible exact w_skip
  | with_reducible exact w_brk
  | with_reducible exact w_cnt
  | with_reducible exact w_retN
  | with_reducible apply w_if
  | with_reducible apply w_ret
  | with_reducible apply w_set
  | with_reducible apply w_drop
  | with_reducible apply w_frz
  | with_reducible apply w_asg
  | with_reducible apply w_par2
  | with_reducible apply w_par3
  | with_reducible apply cs_T
  | with_reducible apply cs_F
  | with_reducible apply cs_nT
  | with_reducible apply cs_nF
  | with_reducible refine' cs_Td (by assumption) ?_
  | with_reducible refine' cs_Fd (by assumption) ?_
  | with_reducible refine' cs_nTd (by assumption) ?_
  | with_reducible refine' cs_nFd (by assumption) ?_
  | with_reducible refine' cs_Th (by assumption) ?_
  | with_reducible refine' cs_Fh (by assumption) ?_
  | with_reducible refine' cs_Td (by omega) ?_
  | with_reducible refine' cs_Fd (by omega) ?_
  | with_reducible exact cs_not
  | with_reducible apply w_op
  | with_reducible apply w_un
  | with_reducible apply w_bool
  | with_reducible apply w_and
  | with_reducible apply w_or
  | with_reducible apply w_not
  | with_reducible apply w_andV
  | with_reducible apply w_orV
  | with_reducible apply w_notV
  | with_reducible apply w_ifM
  | with_reducible apply w_cons
  | with_reducible exact w_nil
  | with_reducible exact w_cst
  | with_reducible exact w_yes
  | with_reducible apply w_tup
  | with_reducible apply w_lst
  | with_reducible exact w_var rfl
  | with_reducible apply w_mov
  | with_reducible apply w_vfz
  | with_reducible apply w_fz
  | with_reducible apply w_vals
  | with_reducible exact w_vals0
  | with_reducible apply w_app
  | with_reducible apply w_slNS
  | with_reducible apply w_lrg2
  | with_reducible apply w_get1
  | with_reducible apply w_get2
  | with_reducible apply w_own
  | with_reducible apply w_apo
  | with_reducible apply w_forAp
  | with_reducible apply w_slSN
  | with_reducible apply w_slSS
  | with_reducible apply w_slNN
  | with_reducible apply w_seqIt
  | with_reducible apply w_rng1
  | with_reducible apply w_rng2
  | with_reducible apply w_enum
  | with_reducible apply w_items
  | with_reducible apply w_zip
  | with_reducible apply w_gname
  | with_reducible apply w_gcons
  | with_reducible exact w_gnil
  | with_reducible apply w_gsub
  | apply w_gtup
  | with_reducible apply w_callM
  | with_reducible apply w_callV
  | with_reducible apply w_methV
  | with_reducible apply w_make
  | with_reducible exact lt_ble rfl
  | with_reducible exact le_ble rfl
  | with_reducible exact ls0
  | with_reducible exact ls1
  | with_reducible exact ls2
  | with_reducible exact ls3
  | with_reducible exact ls4
  | with_reducible exact ls5
  | with_reducible exact ls6
  | with_reducible exact ls7
  | with_reducible exact ls8
  | with_reducible exact ls9
  | with_reducible exact ls10
  | with_reducible exact ls11
  | with_reducible exact ls12
  | with_reducible exact ls13
  | with_reducible exact ls14
  | with_reducible exact ls15
  | with_reducible exact ls16
  | with_reducible exact ls17
  | with_reducible exact ls18
  | with_reducible exact ls19
  | with_reducible exact ls20
  | with_reducible exact ls21
  | with_reducible exact ls22
  | with_reducible exact ls23
  | with_reducible exact ls24
  | with_reducible exact ls25
  | with_reducible exact pk0
  | with_reducible exact pk1
  | with_reducible exact pk2
  | with_reducible exact pk3
  | with_reducible exact pk4
  | with_reducible exact pk5
  | with_reducible exact pk6
  | with_reducible exact pk7
  | with_reducible exact pk8
  | with_reducible apply env_cons
  | with_reducible exact rp0
  | with_reducible exact rp1
  | with_reducible exact rp2
  | with_reducible exact rp3
  | with_reducible exact rp4
  | with_reducible exact rp5
  | with_reducible exact rp6
  | with_reducible exact rp7
  | with_reducible exact rp8
  | with_reducible exact rp9
  | with_reducible exact rp10
  | with_reducible exact rp11
  | with_reducible exact rp12
  | with_reducible exact rp13
  | with_reducible exact rp14
  | with_reducible exact rp15
  | with_reducible exact rp16
  | with_reducible exact rp17
  | with_reducible exact rp18
  | with_reducible exact rp19
  | with_reducible exact rp20
  | with_reducible exact rp21
  | with_reducible exact rp22
  | with_reducible exact rp23
  | with_reducible exact rp24
  | with_reducible exact rp25
  | with_reducible exact pk_sw2
  | with_reducible exact pk_sw3
  | with_reducible exact w_derf rfl
  | ((with_reducible apply w_valrf) <;> exact rfl)
  | with_reducible exact w_valrf rfl (by assumption)
  | ((with_reducible refine val_of ?_); exact rfl)
  | ((with_reducible refine notin_of ?_); decide)
  | ((with_reducible refine val_ownL ?_); exact rfl)
  | ((with_reducible refine deref_of ?_); exact rfl)
  | ((with_reducible apply w_puvf) <;> exact rfl)
  | with_reducible exact w_puvf rfl (by assumption)
  | ((with_reducible refine putV_of ?_); exact rfl)
  | walk_at "leaf")
local macro_rules | `(tactic| walk_at "go") => `(tactic| repeat' (walk_at "one"))
local macro_rules | `(tactic| walk_at "leaf") => `(tactic| first
  | with_reducible exact la_TX _
  | with_reducible exact val_OC
  | with_reducible exact val_ints
  | with_reducible exact val_prs
  | with_reducible exact val_strs
  | with_reducible exact val_qvs
  | with_reducible exact frz_qvs
  | with_reducible exact eq_same
  | with_reducible exact ne_same
  | with_reducible exact ne_nil _
  | with_reducible exact eq_int _ _
  | with_reducible exact ne_int _ _
  | with_reducible exact cmp_int
  | with_reducible exact lt_int
  | with_reducible exact add_int
  | with_reducible exact sub_int
  | with_reducible exact seq_TX
  | with_reducible exact seq_DF
  | with_reducible exact seq_ints
  | with_reducible exact seq_qvs
  | with_reducible exact fz_prs0
  | with_reducible exact tuple_prs
  | with_reducible exact dictI_MK _
  | exact rfl)
/-! ### lines by blocks -/
theorem add_lns {g : List Int} {a b : Int} (h : g.length ≤ 10000) (hb : (b + 1 - (a + 1)).toNat ≤ 10000) : addD (.lst (g.map IN)) (.own (rangeD (a + 1) (b + 1 - (a + 1)).toNat)) = some (.own ((g ++ lns (a + 1) b).map IN)) := by
  have e : rangeD (a + 1) (b + 1 - (a + 1)).toNat = (lns (a + 1) b).map IN := by
    simp only [rangeD, lns, List.map_map]
    rfl
  have f2 : fzL ((lns (a + 1) b).map IN) = true := fzL_map (f := IN) (fun _ => rfl) _
  have hl : (lns (a + 1) b).length ≤ 10000 := by simpa [lns] using hb
  have hb : (g.map IN).length + ((lns (a + 1) b).map IN).length ≤ big := by simp [big]; omega
  rw [e]
  simp only [addD, lstT, f2, if_true, hb, List.map_append]
theorem lns_len {a b : Int} (h : 0 ≤ a) (h2 : b ≤ 100) : (lns (a + 1) b).length ≤ 100 := by simp [lns]; omega
def bdQ (q : Int × Int × Int × Int) : Prop := (0 ≤ q.1 ∧ q.1 ≤ 100) ∧ (0 ≤ q.2.1 ∧ q.2.1 ≤ 100) ∧ (0 ≤ q.2.2.1 ∧ q.2.2.1 ≤ 100) ∧ 0 ≤ q.2.2.2 ∧ q.2.2.2 ≤ 100
theorem L_by_ok {B : Option D} {g h : List Int} {q : Int × Int × Int × Int} (hq : bdQ q) (hg : g.length ≤ 10000) (hh : h.length ≤ 10000) : L__law_by_blocks_1 [B, some (.lst (g.map IN)), some (.lst (h.map IN)), some (.int q.1), some (.int q.2.1), some (.int q.2.2.1), some (.int q.2.2.2)] = .nx [B, some (.lst ((g ++ lns (q.1 + 1) q.2.1).map IN)), some (.lst ((h ++ lns (q.2.2.1 + 1) q.2.2.2).map IN)), some (.int q.1), some (.int q.2.1), some (.int q.2.2.1), some (.int q.2.2.2)] := by
  obtain ⟨⟨a1, a2⟩, ⟨b1, b2⟩, ⟨c1, c2⟩, d1, d2⟩ := hq
  have e1 := add_lns (a := q.1) (b := q.2.1) hg (by omega)
  have e2 := add_lns (a := q.2.2.1) (b := q.2.2.2) hh (by omega)
  unfold L__law_by_blocks_1
  walk_at "go" <;> omega
theorem loop_by {B : Option D} : ∀ (l : List (Int × Int × Int × Int)) (g h : List Int) (s3 s4 s5 s6 : Option D), (∀ q ∈ l, bdQ q) → g.length + 100 * l.length ≤ 10000 → h.length + 100 * l.length ≤ 10000 → ∃ s3' s4' s5' s6', forL (tupG 4 (consG (nameG 3) (consG (nameG 4) (consG (nameG 5) (consG (nameG 6) nilG))))) L__law_by_blocks_1 (l.map QV) [B, some (.lst (g.map IN)), some (.lst (h.map IN)), s3, s4, s5, s6] = .nx [B, some (.lst ((g ++ goes l).map IN)), some (.lst ((h ++ comes l).map IN)), s3', s4', s5', s6']
  | [], g, h, s3, s4, s5, s6, _, _, _ => ⟨s3, s4, s5, s6, by simp [forL, goes, comes]⟩
  | q :: l, g, h, s3, s4, s5, s6, hb, hg, hh => by
    simp only [List.length_cons] at hg hh
    have hq := hb q (List.mem_cons_self ..)
    have t := L_by_ok (B := B) (g := g) (h := h) hq (by omega) (by omega)
    have l1 := lns_len hq.1.1 hq.2.1.2
    have l2 := lns_len hq.2.2.1.1 hq.2.2.2.2
    obtain ⟨x3, x4, x5, x6, r⟩ := loop_by l (g ++ lns (q.1 + 1) q.2.1) (h ++ lns (q.2.2.1 + 1) q.2.2.2) (some (.int q.1)) (some (.int q.2.1)) (some (.int q.2.2.1)) (some (.int q.2.2.2)) (fun x hx => hb x (List.mem_cons_of_mem _ hx)) (by rw [List.length_append]; omega) (by rw [List.length_append]; omega)
    refine ⟨x3, x4, x5, x6, ?_⟩
    rw [List.map_cons]
    rw [forL, show tupG 4 (consG (nameG 3) (consG (nameG 4) (consG (nameG 5) (consG (nameG 6) nilG)))) (QV q) [B, some (.lst (g.map IN)), some (.lst (h.map IN)), s3, s4, s5, s6] = some [B, some (.lst (g.map IN)), some (.lst (h.map IN)), some (.int q.1), some (.int q.2.1), some (.int q.2.2.1), some (.int q.2.2.2)] from rfl]
    simp only [t]
    rw [r]
    simp only [goes, comes, List.flatMap_cons, List.append_assoc]
theorem by_blocks_ok {l : List (Int × Int × Int × Int)} (hb : ∀ q ∈ l, bdQ q) (hl : l.length ≤ 61) : f__law_by_blocks [.lst (l.map QV)] = .ok (.own [.lst ((goes l).map IN), .lst ((comes l).map IN)]) [.lst (l.map QV)] := by
  obtain ⟨x3, x4, x5, x6, r⟩ := loop_by (B := some (.lst (l.map QV))) l [] [] none none none none hb (by simp; omega) (by simp; omega)
  have r : forL (tupG 4 (consG (nameG 3) (consG (nameG 4) (consG (nameG 5) (consG (nameG 6) nilG))))) L__law_by_blocks_1 (l.map QV) [some (.lst (l.map QV)), some (.lst []), some (.lst []), none, none, none, none] = .nx [some (.lst (l.map QV)), some (.lst ((goes l).map IN)), some (.lst ((comes l).map IN)), x3, x4, x5, x6] := r
  have F : F__law_by_blocks_1 [some (.lst (l.map QV)), some (.lst []), some (.lst []), none, none, none, none] = .nx [some (.lst (l.map QV)), some (.lst ((goes l).map IN)), some (.lst ((comes l).map IN)), x3, x4, x5, x6] := by
    unfold F__law_by_blocks_1
    apply w_for (h2 := r)
    have fz : (D.lst (l.map QV)).fz = true := rfl
    walk_at "go"
  unfold f__law_by_blocks b__law_by_blocks
  walk_at "go"
/-! ### the law's own cost -/
theorem getD_own (own : List (Str × (Int × Int))) (pl : Int × Int) (x : Str) : (getKey (KS own) (VS own) (.inr x)).getD (.tup [.int pl.1, .int pl.2]) = PR (ownOf own pl x) := by
  have := getKey_own own pl x
  simp only [KS, VS]
  split at this <;> rename_i h <;> rw [h]
  · exact this
  · exact this
theorem without_succ (n : Nat) (is : List Int) : without (n + 1) is = without n is ++ (if (n : Int) + 1 ∈ is then [] else [(n : Int) + 1]) := by
  simp only [without, List.range_succ, List.map_append, List.filter_append, List.map_cons, List.map_nil]
  congr 1
  by_cases h : (n : Int) + 1 ∈ is
  · rw [if_pos h]
    have h' : 1 + (n : Int) ∈ is := by rw [Int.add_comm]; exact h
    simp [h']
  · rw [if_neg h]
    have h' : 1 + (n : Int) ∉ is := by rw [Int.add_comm]; exact h
    simp [h, Int.add_comm]
theorem nin_lst (i : Int) (l : List Int) : ninD (.int i) (.lst (l.map IN)) = some (.bl (!decide (i ∈ l))) := nin_ints i l
theorem L_cost1_ok {A B C FE S8 : Option D} {pl : Int × Int} {own : List (Str × (Int × Int))} {is : List Int} {f : Int} {k : Nat} {x : Str} : L__law_cost_1 [A, B, C, FE, some (.int pl.1), some (.int pl.2), some (DC own), some (.lst (is.map IN)), S8, some (.int f), some (.int k), some (.str x), none, none] = .nx [A, B, C, FE, some (.int pl.1), some (.int pl.2), some (DC own), some (.lst (is.map IN)), S8, some (.int (f + (if (k : Int) + 1 ∈ is then 0 else (ownOf own pl x).1))), some (.int k), some (.str x), none, none] := by
  have hg := getD_own own pl x
  have hn := nin_lst ((k : Int) + 1) is
  have i0 := ix_pr0 (ownOf own pl x)
  have fD : (DC own).fz = true := rfl
  by_cases p : (k : Int) + 1 ∈ is
  · rw [if_pos p, Int.add_zero]
    unfold L__law_cost_1
    walk_at "go"
  · rw [if_neg p]
    unfold L__law_cost_1
    walk_at "go"
theorem L_cost2_ok {A B C FE S7 : Option D} {pl : Int × Int} {own : List (Str × (Int × Int))} {is : List Int} {f : Int} {k : Nat} {x : Str} : L__law_cost_2 [A, B, C, FE, some (.int pl.1), some (.int pl.2), some (DC own), S7, some (.lst (is.map IN)), some (.int f), some (.int k), some (.str x), none, none] = .nx [A, B, C, FE, some (.int pl.1), some (.int pl.2), some (DC own), S7, some (.lst (is.map IN)), some (.int (f + (if (k : Int) + 1 ∈ is then 0 else (ownOf own pl x).2))), some (.int k), some (.str x), none, none] := by
  have hg := getD_own own pl x
  have hn := nin_lst ((k : Int) + 1) is
  have i0 := ix_pr1 (ownOf own pl x)
  have fD : (DC own).fz = true := rfl
  by_cases p : (k : Int) + 1 ∈ is
  · rw [if_pos p, Int.add_zero]
    unfold L__law_cost_2
    walk_at "go"
  · rw [if_neg p]
    unfold L__law_cost_2
    walk_at "go"
theorem sum_succ {xs : List Str} {n : Nat} {x : Str} (hx : xs[n]? = some x) (is : List Int) (v : Str → Int) : ((without (n + 1) is).map fun i => v (lineT xs i)).sum = ((without n is).map fun i => v (lineT xs i)).sum + (if (n : Int) + 1 ∈ is then 0 else v x) := by
  rw [without_succ, List.map_append, List.sum_append]
  congr 1
  have e : lineT xs ((n : Int) + 1) = x := by
    simp only [lineT, lineAt, show ((n : Int) + 1 - 1).toNat = n by omega, hx, Option.getD_some]
  split <;> simp [e]
theorem F_cost1_ok {old : List Str} {B C FE S8 s10 s11 : Option D} {pl : Int × Int} {own : List (Str × (Int × Int))} {is : List Int} : ∃ t10 t11, F__law_cost_1 [some (TX old), B, C, FE, some (.int pl.1), some (.int pl.2), some (DC own), some (.lst (is.map IN)), S8, some (.int 0), s10, s11, none, none] = .nx [some (TX old), B, C, FE, some (.int pl.1), some (.int pl.2), some (DC own), some (.lst (is.map IN)), S8, some (.int ((without old.length is).map fun i => (ownOf own pl (lineT old i)).1).sum), t10, t11, none, none] := by
  obtain ⟨e', R, t10, t11, rfl⟩ := forL_ind (g := tupG 2 (consG (nameG 10) (consG (nameG 11) nilG))) (b := L__law_cost_1) (fun n e => ∃ t10 t11, e = [some (TX old), B, C, FE, some (.int pl.1), some (.int pl.2), some (DC own), some (.lst (is.map IN)), S8, some (.int ((without n is).map fun i => (ownOf own pl (lineT old i)).1).sum), t10, t11, none, none]) (enumD 0 (old.map .str)) 0 [some (TX old), B, C, FE, some (.int pl.1), some (.int pl.2), some (DC own), some (.lst (is.map IN)), S8, some (.int 0), s10, s11, none, none] (fun j d hd e he => by
    obtain ⟨t10, t11, rfl⟩ := he
    rw [enumD_get, List.getElem?_map] at hd
    cases hx : old[j]? with
    | none => rw [hx] at hd; cases hd
    | some x =>
      rw [hx] at hd
      simp only [Option.map_some, Option.some.injEq, Nat.zero_add] at hd
      subst hd
      rw [Nat.zero_add]
      refine ⟨_, _, rfl, .inl L_cost1_ok, some (.int j), some (.str x), ?_⟩
      rw [sum_succ hx is fun y => (ownOf own pl y).1]) ⟨s10, s11, rfl⟩
  rw [show 0 + (enumD 0 (old.map D.str)).length = old.length by rw [Nat.zero_add, enumD_len, List.length_map]] at R
  refine ⟨t10, t11, ?_⟩
  unfold F__law_cost_1
  apply w_for (h2 := R)
  walk_at "go"
theorem F_cost2_ok {new : List Str} {A C FE S7 s10 s11 : Option D} {pl : Int × Int} {own : List (Str × (Int × Int))} {is : List Int} {f : Int} : ∃ t10 t11, F__law_cost_2 [A, some (TX new), C, FE, some (.int pl.1), some (.int pl.2), some (DC own), S7, some (.lst (is.map IN)), some (.int f), s10, s11, none, none] = .nx [A, some (TX new), C, FE, some (.int pl.1), some (.int pl.2), some (DC own), S7, some (.lst (is.map IN)), some (.int (f + ((without new.length is).map fun i => (ownOf own pl (lineT new i)).2).sum)), t10, t11, none, none] := by
  obtain ⟨e', R, t10, t11, rfl⟩ := forL_ind (g := tupG 2 (consG (nameG 10) (consG (nameG 11) nilG))) (b := L__law_cost_2) (fun n e => ∃ t10 t11, e = [A, some (TX new), C, FE, some (.int pl.1), some (.int pl.2), some (DC own), S7, some (.lst (is.map IN)), some (.int (f + ((without n is).map fun i => (ownOf own pl (lineT new i)).2).sum)), t10, t11, none, none]) (enumD 0 (new.map .str)) 0 [A, some (TX new), C, FE, some (.int pl.1), some (.int pl.2), some (DC own), S7, some (.lst (is.map IN)), some (.int f), s10, s11, none, none] (fun j d hd e he => by
    obtain ⟨t10, t11, rfl⟩ := he
    rw [enumD_get, List.getElem?_map] at hd
    cases hx : new[j]? with
    | none => rw [hx] at hd; cases hd
    | some x =>
      rw [hx] at hd
      simp only [Option.map_some, Option.some.injEq, Nat.zero_add] at hd
      subst hd
      rw [Nat.zero_add]
      refine ⟨_, _, rfl, .inl L_cost2_ok, some (.int j), some (.str x), ?_⟩
      rw [sum_succ hx is fun y => (ownOf own pl y).2, Int.add_assoc]) ⟨s10, s11, by simp [without]⟩
  rw [show 0 + (enumD 0 (new.map D.str)).length = new.length by rw [Nat.zero_add, enumD_len, List.length_map]] at R
  refine ⟨t10, t11, ?_⟩
  unfold F__law_cost_2
  apply w_for (h2 := R)
  walk_at "go"
theorem C_cost1_ok {ps : List (Int × Int)} (hl : ps.length ≤ 60) {A B F g c o : Option D} : C__law_cost_1 [A, B, some (DF ps), F, g, c, o, none, none, none, none, none, none, none] = .ok (.own ((ps.map (·.2)).map IN)) [A, B, some (DF ps), F, g, c, o, none, none, none, none, none, none, none] := by
  have l1 : lcL [12, 13] (tupG 2 (consG (nameG 12) (consG (nameG 13) nilG))) yesB E__law_cost_1 (ps.map PR) [A, B, some (DF ps), F, g, c, o, none, none, none, none, none, none, none] [] = .ok (.own (ps.map fun p => IN p.2)) [A, B, some (DF ps), F, g, c, o, none, none, none, none, none, none, none] :=
    lcL_all rfl PR _ ps (fun p hp => ⟨_, .rf 13, [A, B, some (DF ps), F, g, c, o, none, none, none, none, none, some (.int p.1), some (.int p.2)], rfl, rfl, rfl, rfl⟩) (by omega)
  rw [List.map_map]
  apply w_lc (hl := l1)
  · walk_at "go"
  · rfl
  · rfl
theorem C_cost2_ok {ps : List (Int × Int)} (hl : ps.length ≤ 60) {A B F g c o : Option D} : C__law_cost_2 [A, B, some (DF ps), F, g, c, o, none, none, none, none, none, none, none] = .ok (.own ((ps.map (·.1)).map IN)) [A, B, some (DF ps), F, g, c, o, none, none, none, none, none, none, none] := by
  have l1 : lcL [12, 13] (tupG 2 (consG (nameG 12) (consG (nameG 13) nilG))) yesB E__law_cost_2 (ps.map PR) [A, B, some (DF ps), F, g, c, o, none, none, none, none, none, none, none] [] = .ok (.own (ps.map fun p => IN p.1)) [A, B, some (DF ps), F, g, c, o, none, none, none, none, none, none, none] :=
    lcL_all rfl PR _ ps (fun p hp => ⟨_, .rf 12, [A, B, some (DF ps), F, g, c, o, none, none, none, none, none, some (.int p.1), some (.int p.2)], rfl, rfl, rfl, rfl⟩) (by omega)
  rw [List.map_map]
  apply w_lc (hl := l1)
  · walk_at "go"
  · rfl
  · rfl
theorem law_cost_ok {old new : List Str} {ps : List (Int × Int)} {pl : Int × Int} {own : List (Str × (Int × Int))} (hl : ps.length ≤ 60) : f__law_cost [TX old, TX new, DF ps, .tup [.int pl.1, .int pl.2, DC own]] = .ok (.int ((goneI pl own old ps).sum + (comeI pl own new ps).sum)) [TX old, TX new, DF ps, .tup [.int pl.1, .int pl.2, DC own]] := by
  have c1 := fun A B F g c o => C_cost1_ok (A := A) (B := B) (F := F) (g := g) (c := c) (o := o) hl
  have c2 := fun A B F g c o => C_cost2_ok (A := A) (B := B) (F := F) (g := g) (c := c) (o := o) hl
  have c1 := c1 (some (TX old)) (some (TX new)) (some (.tup [.int pl.1, .int pl.2, DC own])) (some (.int pl.1)) (some (.int pl.2)) (some (DC own))
  have c2 := c2 (some (TX old)) (some (TX new)) (some (.tup [.int pl.1, .int pl.2, DC own])) (some (.int pl.1)) (some (.int pl.2)) (some (DC own))
  obtain ⟨t10, t11, f1⟩ := F_cost1_ok (old := old) (B := some (TX new)) (C := some (DF ps)) (FE := some (.tup [.int pl.1, .int pl.2, DC own])) (S8 := some (.lst ((ps.map (·.2)).map IN))) (s10 := none) (s11 := none) (pl := pl) (own := own) (is := ps.map (·.1))
  obtain ⟨u10, u11, f2⟩ := F_cost2_ok (new := new) (A := some (TX old)) (C := some (DF ps)) (FE := some (.tup [.int pl.1, .int pl.2, DC own])) (S7 := some (.lst ((ps.map (·.1)).map IN))) (s10 := t10) (s11 := t11) (pl := pl) (own := own) (is := ps.map (·.2)) (f := ((without old.length (ps.map (·.1))).map fun i => (ownOf own pl (lineT old i)).1).sum)
  have fF : (D.tup [.int pl.1, .int pl.2, DC own]).fz = true := rfl
  have fP : (DF ps).fz = true := rfl
  unfold f__law_cost b__law_cost goneI comeI
  walk_at "go"
/-! ### partners -/
theorem partner_ok {old new : List Str} {ps : List (Int × Int)} {i : Int} (ho : okT old) (hn : okT new) (h : okD old new ps) (h1 : 1 ≤ i) (h2 : i ≤ old.length) : f_partner_of [TX old, TX new, DF ps, .int i] = .ok (mate ps i) [TX old, TX new, DF ps, .int i] := by
  have e1 : f_check_diff [TX old, TX new, DF ps] = .ok .non [TX old, TX new, DF ps] := check_diff_ok (a := false) (b := false) ho hn h
  have e2 := is_integer_ok i 1 old.length
  rw [decide_eq_true (show 1 ≤ i ∧ i ≤ (old.length : Int) from ⟨h1, h2⟩)] at e2
  have hd := dict_DF (okD_fst h).1
  have hb := okD_bd ho hn h
  rcases mate_is (fun p hp => ⟨(hb p hp).2.2.1, (hb p hp).2.2.2⟩) i with hm | ⟨j, hm, _⟩ <;> rw [hm] <;> (unfold mate at hm; unfold f_partner_of b_partner_of; walk_at "go")
end Lw
set_option Elab.async false
set_option linter.all false
set_option maxRecDepth 100000
set_option maxHeartbeats 1000000
namespace Lw
open PySem L2 Mx
local macro_rules | `(tactic| walk_at "leaf") => `(tactic| exact rfl)
local macro_rules | `(tactic| walk_at "one") => `(tactic| first
  | with_reducible assumption
  | with_reducible exact small_le (by omega) (by omega)
  | with_reducible apply w_fn
  | with_reducible apply w_finN
  | with_reducible apply w_finR
  | with_reducible apply w_seqN
  | with_reducible exact w_seqR
  | with_reducible exact w_seqB
  | with_reducible exact w_seqC
  | with_reducible apply w_seq
  | with_reducible exact w_skip
  | with_reducible exact w_brk
  | with_reducible exact w_cnt
  | with_reducible exact w_retN
  | with_reducible apply w_if
  | with_reducible apply w_ret
  | with_reducible apply w_set
  | with_reducible apply w_drop
  | with_reducible apply w_frz
  | with_reducible apply w_asg
  | with_reducible apply w_par2
  | with_reducible apply w_par3
  | with_reducible apply cs_T
  | with_reducible apply cs_F
  | with_reducible apply cs_nT
  | with_reducible apply cs_nF
  | with_reducible refine' cs_Td (by assumption) ?_
  | with_reducible refine' cs_Fd (by assumption) ?_
  | with_reducible refine' cs_nTd (by assumption) ?_
  | with_reducible refine' cs_nFd (by assumption) ?_
  | with_reducible refine' cs_Th (by assumption) ?_
  | with_reducible refine' cs_Fh (by assumption) ?_
  | with_reducible refine' cs_Td (by omega) ?_
  | with_reducible refine' cs_Fd (by omega) ?_
  | with_reducible exact cs_not
  | with_reducible apply w_op
  | with_reducible apply w_un
  | with_reducible apply w_bool
  | with_reducible apply w_and
  | with_reducible apply w_or
  | with_reducible apply w_not
  | with_reducible apply w_andV
  | with_reducible apply w_orV
  | with_reducible apply w_notV
  | with_reducible apply w_ifM
  | with_reducible apply w_cons
  | with_reducible exact w_nil
  | with_reducible exact w_cst
  | with_reducible exact w_yes
  | with_reducible apply w_tup
  | with_reducible apply w_lst
  | with_reducible exact w_var rfl
  | with_reducible apply w_mov
  | with_reducible apply w_vfz
  | with_reducible apply w_fz
  | with_reducible apply w_vals
  | with_reducible exact w_vals0
  | with_reducible apply w_app
  | with_reducible apply w_slNS
  | with_reducible apply w_lrg2
  | with_reducible apply w_get1
  | with_reducible apply w_get2
  | with_reducible apply w_own
  | with_reducible apply w_apo
  | with_reducible apply w_forAp
  | with_reducible apply w_slSN
  | with_reducible apply w_slSS
  | with_reducible apply w_slNN
  | with_reducible apply w_seqIt
  | with_reducible apply w_rng1
  | with_reducible apply w_rng2
  | with_reducible apply w_enum
  | with_reducible apply w_items
  | with_reducible apply w_zip
  | with_reducible apply w_gname
  | with_reducible apply w_gcons
  | with_reducible exact w_gnil
  | with_reducible apply w_gsub
  | apply w_gtup
  | with_reducible apply w_callM
  | with_reducible apply w_callV
  | with_reducible apply w_methV
  | with_reducible apply w_make
  | with_reducible exact lt_ble rfl
  | with_reducible exact le_ble rfl
  | with_reducible exact ls0
  | with_reducible exact ls1
  | with_reducible exact ls2
  | with_reducible exact ls3
  | with_reducible exact ls4
  | with_reducible exact ls5
  | with_reducible exact ls6
  | with_reducible exact ls7
  | with_reducible exact ls8
  | with_reducible exact ls9
  | with_reducible exact ls10
  | with_reducible exact ls11
  | with_reducible exact ls12
  | with_reducible exact ls13
  | with_reducible exact ls14
  | with_reducible exact ls15
  | with_reducible exact ls16
  | with_reducible exact ls17
  | with_reducible exact ls18
  | with_reducible exact ls19
  | with_reducible exact ls20
  | with_reducible exact ls21
  | with_reducible exact ls22
  | with_reducible exact ls23
  | with_reducible exact ls24
  | with_reducible exact ls25
  | with_reducible exact pk0
  | with_reducible exact pk1
  | with_reducible exact pk2
  | with_reducible exact pk3
  | with_reducible exact pk4
  | with_reducible exact pk5
  | with_reducible exact pk6
  | with_reducible exact pk7
  | with_reducible exact pk8
  | with_reducible apply env_cons
  | with_reducible exact rp0
  | with_reducible exact rp1
  | with_reducible exact rp2
  | with_reducible exact rp3
  | with_reducible exact rp4
  | with_reducible exact rp5
  | with_reducible exact rp6
  | with_reducible exact rp7
  | with_reducible exact rp8
  | with_reducible exact rp9
  | with_reducible exact rp10
  | with_reducible exact rp11
  | with_reducible exact rp12
  | with_reducible exact rp13
  | with_reducible exact rp14
  | with_reducible exact rp15
  | with_reducible exact rp16
  | with_reducible exact rp17
  | with_reducible exact rp18
  | with_reducible exact rp19
  | with_reducible exact rp20
  | with_reducible exact rp21
  | with_reducible exact rp22
  | with_reducible exact rp23
  | with_reducible exact rp24
  | with_reducible exact rp25
  | with_reducible exact pk_sw2
  | with_reducible exact pk_sw3
  | with_reducible exact w_derf rfl
  | ((with_reducible apply w_valrf) <;> exact rfl)
  | with_reducible exact w_valrf rfl (by assumption)
  | ((with_reducible refine val_of ?_); exact rfl)
  | ((with_reducible refine notin_of ?_); decide)
  | ((with_reducible refine val_ownL ?_); exact rfl)
  | ((with_reducible refine deref_of ?_); exact rfl)
  | ((with_reducible apply w_puvf) <;> exact rfl)
  | with_reducible exact w_puvf rfl (by assumption)
  | ((with_reducible refine putV_of ?_); exact rfl)
  | walk_at "leaf")
local macro_rules | `(tactic| walk_at "go") => `(tactic| repeat' (walk_at "one"))
local macro_rules | `(tactic| walk_at "leaf") => `(tactic| first
  | with_reducible exact la_TX _
  | with_reducible exact val_OC
  | with_reducible exact val_ints
  | with_reducible exact val_prs
  | with_reducible exact val_strs
  | with_reducible exact val_qvs
  | with_reducible exact frz_qvs
  | with_reducible exact eq_same
  | with_reducible exact ne_same
  | with_reducible exact ne_nil _
  | with_reducible exact eq_int _ _
  | with_reducible exact ne_int _ _
  | with_reducible exact cmp_int
  | with_reducible exact lt_int
  | with_reducible exact add_int
  | with_reducible exact sub_int
  | with_reducible exact seq_TX
  | with_reducible exact seq_DF
  | with_reducible exact seq_ints
  | with_reducible exact seq_qvs
  | with_reducible exact fz_prs0
  | with_reducible exact tuple_prs
  | with_reducible exact dictI_MK _
  | with_reducible apply w_gown
  | with_reducible exact la_ints
  | exact rfl)
theorem w_gown {ds : List D} {env e : Mx.Env} {gs : GsM} {n : Nat} (hz : fzL ds = true) (hn : ds.length = n) (h : gs ds env = some e) : tupG n gs (.own ds) env = some e := by simp only [tupG, unpI, hz, hn, if_true, h]
theorem la_ints {l : List Int} : lenD (.lst (l.map IN)) = some (.int l.length) := by simp [lenD, Mx.seqI, lstI]
theorem eqv_ints (l : List Int) : PyData.eqvAll (l.map PyData.int) (l.map PyData.int) = true := by
  induction l with
  | nil => rfl
  | cons a l ih => simp [PyData.eqvAll, PyData.eqv] at ih ⊢; exact ih
theorem ne_ints_same (l : List Int) : neD (.own (l.map IN)) (.own (l.map IN)) = some (.bl false) := by
  have h1 := pyL_ints l
  have h2 := lay_ints l
  have h3 := dep_ints l
  have h4 : PyData.depthAll (l.map PyData.int) ≤ 63 := by omega
  have h5 := eqv_ints l
  simp only [neD, eqvD, py, h1]
  simp [SeqAt.shaped, PyData.canLay0, PyData.depth, PyData.eqv, h2, h4, h5]
theorem add_ints {g h : List Int} (hg : g.length ≤ 1000) (hh : h.length ≤ 1000) : addD (.lst (g.map IN)) (.lst (h.map IN)) = some (.own ((g ++ h).map IN)) := by
  have hb : (g.map IN).length + (h.map IN).length ≤ big := by simp [big]; omega
  simp only [addD, lstT, hb, if_true, List.map_append]
theorem sortedA_ints (l : List Int) : sortedA (.own (l.map IN)) = some (.own ((srtI l).map IN)) := by
  simp only [sortedA, sortedD, dictI, Option.bind_none, sortedI, lstI_own (fzL_map (f := IN) (fun _ => rfl) l), Option.bind_some, nums_map, Option.map_some]
  rfl
theorem range_lns (n : Nat) : rangeD 1 (((n : Int) + 1 - 1).toNat) = (lns 1 n).map IN := by
  simp only [rangeD, lns, List.map_map]
  rfl
theorem okC_of {own : List (Str × (Int × Int))} {pl : Int × Int} (ho : okO own) (hp : okC pl) (x : Str) : okC (ownOf own pl x) := by
  by_cases h : x ∈ own.map (·.1)
  · exact (ho.2.2 _ (ownOf_mem (pl := pl) h)).2
  · rw [ownOf_not h]; exact hp
theorem sum_bd {B : Int} : ∀ (l : List Int), (∀ x ∈ l, 0 ≤ x ∧ x ≤ B) → 0 ≤ l.sum ∧ l.sum ≤ B * l.length
  | [], _ => by simp
  | a :: l, h => by
    obtain ⟨i1, i2⟩ := sum_bd l fun x hx => h x (List.mem_cons_of_mem _ hx)
    have := h a (List.mem_cons_self ..)
    rw [List.sum_cons, List.length_cons, Int.natCast_add, Int.mul_add, Int.natCast_one, Int.mul_one]
    omega
theorem goneI_bd {own : List (Str × (Int × Int))} {pl : Int × Int} {old : List Str} {ps : List (Int × Int)} (h : okT old) (ho : okO own) (hp : okC pl) : 0 ≤ (goneI pl own old ps).sum ∧ (goneI pl own old ps).sum ≤ 59999940 := by
  have hl := without_len old.length (ps.map (·.1))
  have h60 := h.1
  obtain ⟨a, b⟩ := sum_bd (B := 999999) (goneI pl own old ps) fun x hx => by
    obtain ⟨i, _, rfl⟩ := List.mem_map.mp hx
    have := (okC_of ho hp (lineT old i)).1
    omega
  simp only [goneI, List.length_map] at b ⊢
  simp only [goneI] at a
  omega
theorem comeI_bd {own : List (Str × (Int × Int))} {pl : Int × Int} {new : List Str} {ps : List (Int × Int)} (h : okT new) (ho : okO own) (hp : okC pl) : 0 ≤ (comeI pl own new ps).sum ∧ (comeI pl own new ps).sum ≤ 59999940 := by
  have hl := without_len new.length (ps.map (·.2))
  have h60 := h.1
  obtain ⟨a, b⟩ := sum_bd (B := 999999) (comeI pl own new ps) fun x hx => by
    obtain ⟨i, _, rfl⟩ := List.mem_map.mp hx
    have := (okC_of ho hp (lineT new i)).2
    omega
  simp only [comeI, List.length_map] at b ⊢
  simp only [comeI] at a
  omega
theorem gone_kept {own : List (Str × (Int × Int))} {pl : Int × Int} (ho : okO own) (old : List Str) (ps : List (Int × Int)) : goneI pl (kept own pl) old ps = goneI pl own old ps := List.map_congr_left fun i _ => by rw [ownOf_kept ho]
theorem come_kept {own : List (Str × (Int × Int))} {pl : Int × Int} (ho : okO own) (new : List Str) (ps : List (Int × Int)) : comeI pl (kept own pl) new ps = comeI pl own new ps := List.map_congr_left fun i _ => by rw [ownOf_kept ho]
theorem repr_int2 {i : Int} (h : -1000000000 ≤ i ∧ i ≤ 1000000000) : ∃ s, reprD (.own [.int i, .int i]) = some (.str s) := by
  have r : Rp 0 40 (.int i) := Rp.int (by rw [pow12]; omega)
  obtain ⟨s, _, h2⟩ := repr_lst (RpL.cons r (RpL.cons r RpL.nil)) (by omega) (by omega)
  exact ⟨s, h2⟩
/-- the four things told -/
theorem repr_told {q : List (Int × Int × Int × Int)} {g c k : List Int} (hq : ∀ x ∈ q, bdQ x) (ql : q.length ≤ 61) (hg : ∀ x ∈ g, -1000000 ≤ x ∧ x ≤ 1000000) (hc : ∀ x ∈ c, -1000000 ≤ x ∧ x ≤ 1000000) (hk : ∀ x ∈ k, -1000000 ≤ x ∧ x ≤ 1000000) (gl : g.length ≤ 60) (cl : c.length ≤ 60) (kl : k.length ≤ 60) :
    ∃ s, reprD (.lst [.lst (q.map QV), .lst (g.map IN), .lst (c.map IN), .lst (k.map IN)]) = some (.str s) ∧ reprD (.own [.lst (q.map QV), .lst (g.map IN), .lst (c.map IN), .lst (k.map IN)]) = some (.str s) ∧ reprD (.own [.own (q.map QV), .own (g.map IN), .own (c.map IN), .own (k.map IN)]) = some (.str s) := by
  have rq := RpL.map (c := QV) (l := q) (k := 1) (w := 164) fun x hx => by
    obtain ⟨⟨a1, a2⟩, ⟨b1, b2⟩, ⟨c1, c2⟩, d1, d2⟩ := hq x hx
    exact rp_QV ⟨⟨by omega, by omega⟩, ⟨by omega, by omega⟩, ⟨by omega, by omega⟩, by omega, by omega⟩
  have ri : ∀ {l : List Int}, (∀ x ∈ l, -1000000 ≤ x ∧ x ≤ 1000000) → l.length ≤ 60 → Rp 2 2460 (.lst (l.map IN)) := fun {l} h hl => (Rp.lst (RpL.map (c := IN) (l := l) (k := 0) (w := 40) fun x hx => rp_int (h x hx))).mono (by omega) (by omega)
  have e1 : Rp 2 10065 (.lst (q.map QV)) := (Rp.lst rq).mono (by omega) (by omega)
  obtain ⟨s, h1, h2⟩ := repr_lst (RpL.cons e1 (RpL.cons (ri hg gl) (RpL.cons (ri hc cl) (RpL.cons (ri hk kl) RpL.nil)))) (by omega) (by omega)
  refine ⟨s, h1, h2, ?_⟩
  rw [← h2]
  refine repr_py ?_
  simp only [py, pyL]
/-- the lines' partners -/
def mates (n : Nat) (ps : List (Int × Int)) : List D := (List.range n).map fun k : Nat => mate ps ((k : Int) + 1)
theorem repr_mates {n : Nat} {ps : List (Int × Int)} (hn : n ≤ 60) (h : ∀ p ∈ ps, 1 ≤ p.2 ∧ p.2 ≤ 60) : ∃ s, reprD (.lst (mates n ps)) = some (.str s) ∧ reprD (.own (mates n ps)) = some (.str s) := by
  refine repr_lst (RpL.map (c := fun k : Nat => mate ps ((k : Int) + 1)) (l := List.range n) (k := 0) (w := 40) fun k _ => ?_) (by omega) (by simp; omega)
  rcases mate_is h ((k : Int) + 1) with e | ⟨j, e, j1, j2⟩
  · rw [e]; exact Rp.non.mono (by omega) (by omega)
  · rw [e]; exact rp_int (by omega)
theorem val_mate {ps : List (Int × Int)} (h : ∀ p ∈ ps, 1 ≤ p.2 ∧ p.2 ≤ 60) (i : Int) (e : Mx.Env) : val e (mate ps i) = some (mate ps i) := by
  rcases mate_is h i with q | ⟨j, q, _⟩ <;> rw [q] <;> rfl
theorem frz_mates {n : Nat} {ps : List (Int × Int)} (h : ∀ p ∈ ps, 1 ≤ p.2 ∧ p.2 ≤ 60) : frzL (mates n ps) = mates n ps := by
  rw [frzL_eq, mates, List.map_map]
  refine List.map_congr_left fun k _ => ?_
  simp only [Function.comp]
  rcases mate_is h ((k : Int) + 1) with q | ⟨j, q, _⟩ <;> rw [q] <;> rfl
theorem C_right2_ok {old new : List Str} {ps : List (Int × Int)} (ho : okT old) (hn : okT new) (h : okD old new ps) {s0 s4 s5 s6 s7 s8 s9 s10 s11 s12 s13 s14 s15 s16 s17 s18 s19 : Option D} :
    C__law_right_2 [s0, some (TX old), some (TX new), some (DF ps), s4, s5, s6, s7, s8, s9, s10, s11, s12, s13, s14, s15, s16, s17, s18, s19, none] = .ok (.own (mates old.length ps)) [s0, some (TX old), some (TX new), some (DF ps), s4, s5, s6, s7, s8, s9, s10, s11, s12, s13, s14, s15, s16, s17, s18, s19, none] := by
  have h60 := ho.1
  have hb := okD_bd ho hn h
  have hb2 : ∀ p ∈ ps, 1 ≤ p.2 ∧ p.2 ≤ 60 := fun p hp => ⟨(hb p hp).2.2.1, (hb p hp).2.2.2⟩
  have fP : (DF ps).fz = true := rfl
  have l1 : lcL [20] (nameG 20) yesB E__law_right_2 ((List.range old.length).map fun k : Nat => D.int (0 + (k : Int))) [s0, some (TX old), some (TX new), some (DF ps), s4, s5, s6, s7, s8, s9, s10, s11, s12, s13, s14, s15, s16, s17, s18, s19, none] [] = .ok (.own (mates old.length ps)) [s0, some (TX old), some (TX new), some (DF ps), s4, s5, s6, s7, s8, s9, s10, s11, s12, s13, s14, s15, s16, s17, s18, s19, none] := by
    refine lcL_all rfl (fun k : Nat => D.int (0 + (k : Int))) (fun k : Nat => mate ps ((k : Int) + 1)) (List.range old.length) (fun k hk => ?_) (by simp; omega)
    rw [List.mem_range] at hk
    have pk := partner_ok (i := 0 + (k : Int) + 1) ho hn h (by omega) (by omega)
    rw [show 0 + (k : Int) + 1 = (k : Int) + 1 by omega] at pk
    have ad : addD (.int (0 + (k : Int))) (.int 1) = some (.int ((k : Int) + 1)) := by
      rw [Int.zero_add]; rfl
    refine ⟨[s0, some (TX old), some (TX new), some (DF ps), s4, s5, s6, s7, s8, s9, s10, s11, s12, s13, s14, s15, s16, s17, s18, s19, some (.int (0 + (k : Int)))], mate ps ((k : Int) + 1), [s0, some (TX old), some (TX new), some (DF ps), s4, s5, s6, s7, s8, s9, s10, s11, s12, s13, s14, s15, s16, s17, s18, s19, some (.int (0 + (k : Int)))], rfl, ?_, val_mate hb2 _ _, rfl⟩
    unfold E__law_right_2
    walk_at "go"
  apply w_lc (hl := l1)
  · have e : (List.range old.length).map (fun k : Nat => D.int (0 + (k : Int))) = rangeD 0 ((old.length : Int)).toNat := by simp only [rangeD, Int.toNat_natCast]
    rw [e]
    walk_at "go"
  · rfl
  · rfl
theorem C_right3_ok {old new : List Str} {ps : List (Int × Int)} (ho : okT old) (hn : okT new) (h : okD old new ps) {s0 s4 s5 s6 s7 s8 s9 s10 s11 s12 s13 s14 s15 s16 s17 s18 s19 : Option D} :
    C__law_right_3 [s0, some (TX old), some (TX new), some (DF ps), s4, s5, s6, s7, s8, s9, s10, s11, s12, s13, s14, s15, s16, s17, s18, s19, none] = .ok (.own (mates old.length ps)) [s0, some (TX old), some (TX new), some (DF ps), s4, s5, s6, s7, s8, s9, s10, s11, s12, s13, s14, s15, s16, s17, s18, s19, none] := by
  have h60 := ho.1
  have hb := okD_bd ho hn h
  have hd := dict_DF (okD_fst h).1
  have hb2 : ∀ p ∈ ps, 1 ≤ p.2 ∧ p.2 ≤ 60 := fun p hp => ⟨(hb p hp).2.2.1, (hb p hp).2.2.2⟩
  have l1 : lcL [20] (nameG 20) yesB E__law_right_3 ((List.range old.length).map fun k : Nat => D.int (0 + (k : Int))) [s0, some (TX old), some (TX new), some (DF ps), s4, s5, s6, s7, s8, s9, s10, s11, s12, s13, s14, s15, s16, s17, s18, s19, none] [] = .ok (.own (mates old.length ps)) [s0, some (TX old), some (TX new), some (DF ps), s4, s5, s6, s7, s8, s9, s10, s11, s12, s13, s14, s15, s16, s17, s18, s19, none] := by
    refine lcL_all rfl (fun k : Nat => D.int (0 + (k : Int))) (fun k : Nat => mate ps ((k : Int) + 1)) (List.range old.length) (fun k hk => ?_) (by simp; omega)
    have ad : addD (.int (0 + (k : Int))) (.int 1) = some (.int ((k : Int) + 1)) := by
      rw [Int.zero_add]; rfl
    refine ⟨[s0, some (TX old), some (TX new), some (DF ps), s4, s5, s6, s7, s8, s9, s10, s11, s12, s13, s14, s15, s16, s17, s18, s19, some (.int (0 + (k : Int)))], mate ps ((k : Int) + 1), [s0, some (TX old), some (TX new), some (DF ps), s4, s5, s6, s7, s8, s9, s10, s11, s12, s13, s14, s15, s16, s17, s18, s19, some (.int (0 + (k : Int)))], rfl, ?_, val_mate hb2 _ _, rfl⟩
    unfold E__law_right_3
    walk_at "go"
  apply w_lc (hl := l1)
  · have e : (List.range old.length).map (fun k : Nat => D.int (0 + (k : Int))) = rangeD 0 ((old.length : Int)).toNat := by simp only [rangeD, Int.toNat_natCast]
    rw [e]
    walk_at "go"
  · rfl
  · rfl
theorem C_right1_ok {ps : List (Int × Int)} (hl : ps.length ≤ 60) {s0 s1 s2 s4 s5 s6 s7 s8 s9 s10 s11 s12 s13 s14 s15 s16 s17 s20 : Option D} :
    C__law_right_1 [s0, s1, s2, some (DF ps), s4, s5, s6, s7, s8, s9, s10, s11, s12, s13, s14, s15, s16, s17, none, none, s20] = .ok (.own ((ps.map (·.1)).map IN)) [s0, s1, s2, some (DF ps), s4, s5, s6, s7, s8, s9, s10, s11, s12, s13, s14, s15, s16, s17, none, none, s20] := by
  have l1 : lcL [18, 19] (tupG 2 (consG (nameG 18) (consG (nameG 19) nilG))) yesB E__law_right_1 (ps.map PR) [s0, s1, s2, some (DF ps), s4, s5, s6, s7, s8, s9, s10, s11, s12, s13, s14, s15, s16, s17, none, none, s20] [] = .ok (.own (ps.map fun p => IN p.1)) [s0, s1, s2, some (DF ps), s4, s5, s6, s7, s8, s9, s10, s11, s12, s13, s14, s15, s16, s17, none, none, s20] :=
    lcL_all rfl PR _ ps (fun p hp => ⟨_, .rf 18, [s0, s1, s2, some (DF ps), s4, s5, s6, s7, s8, s9, s10, s11, s12, s13, s14, s15, s16, s17, some (.int p.1), some (.int p.2), s20], rfl, rfl, rfl, rfl⟩) (by omega)
  rw [List.map_map]
  apply w_lc (hl := l1)
  · walk_at "go"
  · rfl
  · rfl
end Lw
set_option Elab.async false
set_option linter.all false
set_option maxRecDepth 100000
set_option maxHeartbeats 1000000
namespace Lw
open PySem L2 Mx
local macro_rules | `(tactic| walk_at "leaf") => `(tactic| exact rfl)
local macro_rules | `(tactic| walk_at "one") => `(tactic| first
  | with_reducible assumption
  | with_reducible exact small_le (by omega) (by omega)
  | with_reducible apply w_fn
  | with_reducible apply w_finN
  | with_reducible apply w_finR
  | with_reducible apply w_seqN
  | with_reducible exact w_seqR
  | with_reducible exact w_seqB
  | with_reducible exact w_seqC
  | with_reducible apply w_seq
  | with_reducible exact w_skip
  | with_reducible exact w_brk
  | with_reducible exact w_cnt
  | with_reducible exact w_retN
  | with_reducible apply w_if
  | with_reducible apply w_ret
  | with_reducible apply w_set
  | with_reducible apply w_drop
  | with_reducible apply w_frz
  | with_reducible apply w_asg
  | with_reducible apply w_par2
  | with_reducible apply w_par3
  | with_reducible apply cs_T
  | with_reducible apply cs_F
  | with_reducible apply cs_nT
  | with_reducible apply cs_nF
  | with_reducible refine' cs_Td (by assumption) ?_
  | with_reducible refine' cs_Fd (by assumption) ?_
  | with_reducible refine' cs_nTd (by assumption) ?_
  | with_reducible refine' cs_nFd (by assumption) ?_
  | with_reducible refine' cs_Th (by assumption) ?_
  | with_reducible refine' cs_Fh (by assumption) ?_
  | with_reducible refine' cs_Td (by omega) ?_
  | with_reducible refine' cs_Fd (by omega) ?_
  | with_reducible exact cs_not
  | with_reducible apply w_op
  | with_reducible apply w_un
  | with_reducible apply w_bool
  | with_reducible apply w_and
  | with_reducible apply w_or
  | with_reducible apply w_not
  | with_reducible apply w_andV
  | with_reducible apply w_orV
  | with_reducible apply w_notV
  | with_reducible apply w_ifM
  | with_reducible apply w_cons
  | with_reducible exact w_nil
  | with_reducible exact w_cst
  | with_reducible exact w_yes
  | with_reducible apply w_tup
  | with_reducible apply w_lst
  | with_reducible exact w_var rfl
  | with_reducible apply w_mov
  | with_reducible apply w_vfz
  | with_reducible apply w_fz
  | with_reducible apply w_vals
  | with_reducible exact w_vals0
  | with_reducible apply w_app
  | with_reducible apply w_slNS
  | with_reducible apply w_lrg2
  | with_reducible apply w_get1
  | with_reducible apply w_get2
  | with_reducible apply w_own
  | with_reducible apply w_apo
  | with_reducible apply w_forAp
  | with_reducible apply w_slSN
  | with_reducible apply w_slSS
  | with_reducible apply w_slNN
  | with_reducible apply w_seqIt
  | with_reducible apply w_rng1
  | with_reducible apply w_rng2
  | with_reducible apply w_enum
  | with_reducible apply w_items
  | with_reducible apply w_zip
  | with_reducible apply w_gname
  | with_reducible apply w_gcons
  | with_reducible exact w_gnil
  | with_reducible apply w_gsub
  | apply w_gtup
  | with_reducible apply w_callM
  | with_reducible apply w_callV
  | with_reducible apply w_methV
  | with_reducible apply w_make
  | with_reducible exact lt_ble rfl
  | with_reducible exact le_ble rfl
  | with_reducible exact ls0
  | with_reducible exact ls1
  | with_reducible exact ls2
  | with_reducible exact ls3
  | with_reducible exact ls4
  | with_reducible exact ls5
  | with_reducible exact ls6
  | with_reducible exact ls7
  | with_reducible exact ls8
  | with_reducible exact ls9
  | with_reducible exact ls10
  | with_reducible exact ls11
  | with_reducible exact ls12
  | with_reducible exact ls13
  | with_reducible exact ls14
  | with_reducible exact ls15
  | with_reducible exact ls16
  | with_reducible exact ls17
  | with_reducible exact ls18
  | with_reducible exact ls19
  | with_reducible exact ls20
  | with_reducible exact ls21
  | with_reducible exact ls22
  | with_reducible exact ls23
  | with_reducible exact ls24
  | with_reducible exact ls25
  | with_reducible exact pk0
  | with_reducible exact pk1
  | with_reducible exact pk2
  | with_reducible exact pk3
  | with_reducible exact pk4
  | with_reducible exact pk5
  | with_reducible exact pk6
  | with_reducible exact pk7
  | with_reducible exact pk8
  | with_reducible apply env_cons
  | with_reducible exact rp0
  | with_reducible exact rp1
  | with_reducible exact rp2
  | with_reducible exact rp3
  | with_reducible exact rp4
  | with_reducible exact rp5
  | with_reducible exact rp6
  | with_reducible exact rp7
  | with_reducible exact rp8
  | with_reducible exact rp9
  | with_reducible exact rp10
  | with_reducible exact rp11
  | with_reducible exact rp12
  | with_reducible exact rp13
  | with_reducible exact rp14
  | with_reducible exact rp15
  | with_reducible exact rp16
  | with_reducible exact rp17
  | with_reducible exact rp18
  | with_reducible exact rp19
  | with_reducible exact rp20
  | with_reducible exact rp21
  | with_reducible exact rp22
  | with_reducible exact rp23
  | with_reducible exact rp24
  | with_reducible exact rp25
  | with_reducible exact pk_sw2
  | with_reducible exact pk_sw3
  | with_reducible exact w_derf rfl
  | ((with_reducible apply w_valrf) <;> exact rfl)
  | with_reducible exact w_valrf rfl (by assumption)
  | ((with_reducible refine val_of ?_); exact rfl)
  | ((with_reducible refine notin_of ?_); decide)
  | ((with_reducible refine val_ownL ?_); exact rfl)
  | ((with_reducible refine deref_of ?_); exact rfl)
  | ((with_reducible apply w_puvf) <;> exact rfl)
  | with_reducible exact w_puvf rfl (by assumption)
  | ((with_reducible refine putV_of ?_); exact rfl)
  | walk_at "leaf")
local macro_rules | `(tactic| walk_at "go") => `(tactic| repeat' (walk_at "one"))
local macro_rules | `(tactic| walk_at "leaf") => `(tactic| first
  | with_reducible exact la_TX _
  | with_reducible exact val_OC
  | with_reducible exact val_ints
  | with_reducible exact val_prs
  | with_reducible exact val_strs
  | with_reducible exact val_qvs
  | with_reducible exact frz_qvs
  | with_reducible exact eq_same
  | with_reducible exact ne_same
  | with_reducible exact ne_nil _
  | with_reducible exact eq_int _ _
  | with_reducible exact ne_int _ _
  | with_reducible exact cmp_int
  | with_reducible exact lt_int
  | with_reducible exact add_int
  | with_reducible exact sub_int
  | with_reducible exact seq_TX
  | with_reducible exact seq_DF
  | with_reducible exact seq_ints
  | with_reducible exact seq_qvs
  | with_reducible exact fz_prs0
  | with_reducible exact tuple_prs
  | with_reducible exact dictI_MK _
  | with_reducible apply w_gown
  | with_reducible exact la_ints
  | with_reducible exact frz_lints
  | exact rfl)
theorem pk_dd {α : Type} {a b c d e f : α} : pick [0, 1, 2] ([a, b, c] ++ [d, e, f]) = [a, b, c] := rfl
theorem pk_sw4 {α : Type} {a b c d : α} : pick [3, 2, 1, 0] ([a, b, c, d] ++ []) = [d, c, b, a] := rfl
theorem frz_lints {l : List Int} : (D.own (l.map IN)).frz = .lst (l.map IN) := by simp only [D.frz, fz_ints]
theorem app_told {q : List (Int × Int × Int × Int)} {g c k : List Int} (ql : q.length ≤ 61) (gl : g.length ≤ 60) (cl : c.length ≤ 60) (kl : k.length ≤ 60) :
    appAll [.own (q.map QV), .own (g.map IN), .own (c.map IN), .own (k.map IN)] = some [.own (q.map QV ++ [.non]), .own (g.map IN ++ [.non]), .own (c.map IN ++ [.non]), .own (k.map IN ++ [.non])] := by
  have f1 := fz_qv q
  have fi : ∀ l : List Int, fzL (l.map IN) = true := fun l => fzL_map (f := IN) (fun _ => rfl) l
  have l1 : (q.map QV).length < 1000000 := by simp; omega
  have l2 : (g.map IN).length < 1000000 := by simp; omega
  have l3 : (c.map IN).length < 1000000 := by simp; omega
  have l4 : (k.map IN).length < 1000000 := by simp; omega
  simp only [appAll, app1, f1, fi, l1, l2, l3, l4, and_self, if_true, Option.map_some]
theorem L_right1_ok {P : D} {old new : List Str} {ps : List (Int × Int)} {fees : D} {s5 s6 s7 s8 s10 s11 s12 s13 s14 s15 s16 s17 s18 s19 s20 : Option D} {due : D} {s : Str} (ho : okT old) (hn : okT new) (h : okD old new ps)
    (hd : reprD due = some (.str s)) (ht : reprD (.own [.own ((blocks old.length new.length ps).map QV), .own ((without old.length (ps.map (·.1))).map IN), .own ((without new.length (ps.map (·.2))).map IN), .own ((ps.map (·.1)).map IN)]) = some (.str s)) :
    ∃ z, L__law_right_1 [some P, some (TX old), some (TX new), some (DF ps), some fees, s5, s6, s7, s8, some due, s10, s11, s12, s13, s14, s15, s16, s17, s18, s19, s20] = .nx [some P, some (TX old), some (TX new), some (DF ps), some fees, s5, s6, s7, s8, some due, s10, s11, some z, none, s14, s15, s16, s17, s18, s19, s20] := by
  have h60 := ho.1
  have n60 := hn.1
  have hlen := okD_len h
  have bl := blocks_len ho h
  have w1 := without_len old.length (ps.map (·.1))
  have w2 := without_len new.length (ps.map (·.2))
  have b1 : f_blocks_of [TX old, TX new, DF ps] = .ok (.own ((blocks old.length new.length ps).map QV)) [TX old, TX new, DF ps] := blocks_of_ok (ta := false) (tb := false) ho hn h
  have b2 : f_gone_lines [TX old, TX new, DF ps] = .ok (.own ((without old.length (ps.map (·.1))).map IN)) [TX old, TX new, DF ps] := gone_lines_ok (ta := false) (tb := false) ho hn h
  have b3 : f_come_lines [TX old, TX new, DF ps] = .ok (.own ((without new.length (ps.map (·.2))).map IN)) [TX old, TX new, DF ps] := come_lines_ok (ta := false) (tb := false) ho hn h
  have b4 : f_kept_lines [TX old, TX new, DF ps] = .ok (.own ((ps.map (·.1)).map IN)) [TX old, TX new, DF ps] := kept_lines_ok (a := false) (b := false) ho hn h
  have ap := app_told (q := blocks old.length new.length ps) (g := without old.length (ps.map (·.1))) (c := without new.length (ps.map (·.2))) (k := ps.map (·.1)) bl (by omega) (by omega) (by simp; omega)
  generalize blocks old.length new.length ps = Q at *
  generalize without old.length (ps.map (·.1)) = G at *
  generalize without new.length (ps.map (·.2)) = C at *
  generalize ps.map (·.1) = K at *
  have ht2 : reprD (.own ([.own (Q.map QV), .own (G.map IN), .own (C.map IN)] ++ [.own (K.map IN)])) = some (.str s) := ht
  have ap2 : appAll ([.own (Q.map QV), .own (G.map IN), .own (C.map IN)] ++ [.own (K.map IN)]) = some [.own (Q.map QV ++ [.non]), .own (G.map IN ++ [.non]), .own (C.map IN ++ [.non]), .own (K.map IN ++ [.non])] := ap
  have nr : ¬ (13 = 12 ∨ [some P, some (TX old), some (TX new), some (DF ps), some fees, s5, s6, s7, s8, some due, s10, s11, some (D.own ([.own (Q.map QV), .own (G.map IN), .own (C.map IN)] ++ [.own (K.map IN)])), s13, s14, s15, s16, s17, s18, s19, s20].length ≤ 13) := by simp
  refine ⟨.own [.own (Q.map QV ++ [.non]), .own (G.map IN ++ [.non]), .own (C.map IN ++ [.non]), .own (K.map IN ++ [.non])], ?_⟩
  unfold L__law_right_1
  walk_at "go"
theorem F_right1_ok {P : D} {old new : List Str} {ps : List (Int × Int)} {fees : D} {s5 s6 s7 s8 s10 s11 s12 s13 s14 s15 s16 s17 s18 s19 s20 : Option D} {due : D} {s : Str} (ho : okT old) (hn : okT new) (h : okD old new ps)
    (hd : reprD due = some (.str s)) (ht : reprD (.own [.own ((blocks old.length new.length ps).map QV), .own ((without old.length (ps.map (·.1))).map IN), .own ((without new.length (ps.map (·.2))).map IN), .own ((ps.map (·.1)).map IN)]) = some (.str s)) :
    ∃ t11 t12 t13, F__law_right_1 [some P, some (TX old), some (TX new), some (DF ps), some fees, s5, s6, s7, s8, some due, s10, s11, s12, s13, s14, s15, s16, s17, s18, s19, s20] = .nx [some P, some (TX old), some (TX new), some (DF ps), some fees, s5, s6, s7, s8, some due, s10, t11, t12, t13, s14, s15, s16, s17, s18, s19, s20] := by
  obtain ⟨e', R, t11, t12, t13, rfl⟩ := forL_inv (g := nameG 11) (b := L__law_right_1) (fun e => ∃ t11 t12 t13, e = [some P, some (TX old), some (TX new), some (DF ps), some fees, s5, s6, s7, s8, some due, s10, t11, t12, t13, s14, s15, s16, s17, s18, s19, s20]) (rangeD 0 2) [some P, some (TX old), some (TX new), some (DF ps), some fees, s5, s6, s7, s8, some due, s10, s11, s12, s13, s14, s15, s16, s17, s18, s19, s20] (fun d hd' e he => by
    obtain ⟨t11, t12, t13, rfl⟩ := he
    obtain ⟨z, hz⟩ := L_right1_ok (P := P) (fees := fees) (s5 := s5) (s6 := s6) (s7 := s7) (s8 := s8) (s10 := s10) (s11 := some d) (s12 := t12) (s13 := t13) (s14 := s14) (s15 := s15) (s16 := s16) (s17 := s17) (s18 := s18) (s19 := s19) (s20 := s20) ho hn h hd ht
    exact ⟨[some P, some (TX old), some (TX new), some (DF ps), some fees, s5, s6, s7, s8, some due, s10, some d, t12, t13, s14, s15, s16, s17, s18, s19, s20], _, rfl, .inl hz, some d, some z, none, rfl⟩) ⟨s11, s12, s13, rfl⟩
  refine ⟨t11, t12, t13, ?_⟩
  unfold F__law_right_1
  apply w_for (h2 := R)
  exact w_rng1 (j := 2) rfl rfl (by decide)
end Lw
set_option Elab.async false
set_option linter.all false
set_option maxRecDepth 100000
set_option maxHeartbeats 1000000
namespace Lw
open PySem L2 Mx
local macro_rules | `(tactic| walk_at "leaf") => `(tactic| exact rfl)
local macro_rules | `(tactic| walk_at "one") => `(tactic| first
  | with_reducible assumption
  | with_reducible exact small_le (by omega) (by omega)
  | with_reducible apply w_fn
  | with_reducible apply w_finN
  | with_reducible apply w_finR
  | with_reducible apply w_seqN
  | with_reducible exact w_seqR
  | with_reducible exact w_seqB
  | with_reducible exact w_seqC
  | with_reducible apply w_seq
  | with_reducible exact w_skip
  | with_reducible exact w_brk
  | with_reducible exact w_cnt
  | with_reducible exact w_retN
  | with_reducible apply w_if
  | with_reducible apply w_ret
  | with_reducible apply w_set
  | with_reducible apply w_drop
  | with_reducible apply w_frz
  | with_reducible apply w_asg
  | with_reducible apply w_par2
  | with_reducible apply w_par3
  | with_reducible apply cs_T
  | with_reducible apply cs_F
  | with_reducible apply cs_nT
  | with_reducible apply cs_nF
  | with_reducible refine' cs_Td (by assumption) ?_
  | with_reducible refine' cs_Fd (by assumption) ?_
  | with_reducible refine' cs_nTd (by assumption) ?_
  | with_reducible refine' cs_nFd (by assumption) ?_
  | with_reducible refine' cs_Th (by assumption) ?_
  | with_reducible refine' cs_Fh (by assumption) ?_
  | with_reducible refine' cs_Td (by omega) ?_
  | with_reducible refine' cs_Fd (by omega) ?_
  | with_reducible exact cs_not
  | with_reducible apply w_op
  | with_reducible apply w_un
  | with_reducible apply w_bool
  | with_reducible apply w_and
  | with_reducible apply w_or
  | with_reducible apply w_not
  | with_reducible apply w_andV
  | with_reducible apply w_orV
  | with_reducible apply w_notV
  | with_reducible apply w_ifM
  | with_reducible apply w_cons
  | with_reducible exact w_nil
  | with_reducible exact w_cst
  | with_reducible exact w_yes
  | with_reducible apply w_tup
  | with_reducible apply w_lst
  | with_reducible exact w_var rfl
  | with_reducible apply w_mov
  | with_reducible apply w_vfz
  | with_reducible apply w_fz
  | with_reducible apply w_vals
  | with_reducible exact w_vals0
  | with_reducible apply w_app
  | with_reducible apply w_slNS
  | with_reducible apply w_lrg2
  | with_reducible apply w_get1
  | with_reducible apply w_get2
  | with_reducible apply w_own
  | with_reducible apply w_apo
  | with_reducible apply w_forAp
  | with_reducible apply w_slSN
  | with_reducible apply w_slSS
  | with_reducible apply w_slNN
  | with_reducible apply w_seqIt
  | with_reducible apply w_rng1
  | with_reducible apply w_rng2
  | with_reducible apply w_enum
  | with_reducible apply w_items
  | with_reducible apply w_zip
  | with_reducible apply w_gname
  | with_reducible apply w_gcons
  | with_reducible exact w_gnil
  | with_reducible apply w_gsub
  | apply w_gtup
  | with_reducible apply w_callM
  | with_reducible apply w_callV
  | with_reducible apply w_methV
  | with_reducible apply w_make
  | with_reducible exact lt_ble rfl
  | with_reducible exact le_ble rfl
  | with_reducible exact ls0
  | with_reducible exact ls1
  | with_reducible exact ls2
  | with_reducible exact ls3
  | with_reducible exact ls4
  | with_reducible exact ls5
  | with_reducible exact ls6
  | with_reducible exact ls7
  | with_reducible exact ls8
  | with_reducible exact ls9
  | with_reducible exact ls10
  | with_reducible exact ls11
  | with_reducible exact ls12
  | with_reducible exact ls13
  | with_reducible exact ls14
  | with_reducible exact ls15
  | with_reducible exact ls16
  | with_reducible exact ls17
  | with_reducible exact ls18
  | with_reducible exact ls19
  | with_reducible exact ls20
  | with_reducible exact ls21
  | with_reducible exact ls22
  | with_reducible exact ls23
  | with_reducible exact ls24
  | with_reducible exact ls25
  | with_reducible exact pk0
  | with_reducible exact pk1
  | with_reducible exact pk2
  | with_reducible exact pk3
  | with_reducible exact pk4
  | with_reducible exact pk5
  | with_reducible exact pk6
  | with_reducible exact pk7
  | with_reducible exact pk8
  | with_reducible apply env_cons
  | with_reducible exact rp0
  | with_reducible exact rp1
  | with_reducible exact rp2
  | with_reducible exact rp3
  | with_reducible exact rp4
  | with_reducible exact rp5
  | with_reducible exact rp6
  | with_reducible exact rp7
  | with_reducible exact rp8
  | with_reducible exact rp9
  | with_reducible exact rp10
  | with_reducible exact rp11
  | with_reducible exact rp12
  | with_reducible exact rp13
  | with_reducible exact rp14
  | with_reducible exact rp15
  | with_reducible exact rp16
  | with_reducible exact rp17
  | with_reducible exact rp18
  | with_reducible exact rp19
  | with_reducible exact rp20
  | with_reducible exact rp21
  | with_reducible exact rp22
  | with_reducible exact rp23
  | with_reducible exact rp24
  | with_reducible exact rp25
  | with_reducible exact pk_sw2
  | with_reducible exact pk_sw3
  | with_reducible exact w_derf rfl
  | ((with_reducible apply w_valrf) <;> exact rfl)
  | with_reducible exact w_valrf rfl (by assumption)
  | ((with_reducible refine val_of ?_); exact rfl)
  | ((with_reducible refine notin_of ?_); decide)
  | ((with_reducible refine val_ownL ?_); exact rfl)
  | ((with_reducible refine deref_of ?_); exact rfl)
  | ((with_reducible apply w_puvf) <;> exact rfl)
  | with_reducible exact w_puvf rfl (by assumption)
  | ((with_reducible refine putV_of ?_); exact rfl)
  | walk_at "leaf")
local macro_rules | `(tactic| walk_at "go") => `(tactic| repeat' (walk_at "one"))
local macro_rules | `(tactic| walk_at "leaf") => `(tactic| first
  | with_reducible exact la_TX _
  | with_reducible exact val_OC
  | with_reducible exact val_ints
  | with_reducible exact val_prs
  | with_reducible exact val_strs
  | with_reducible exact val_qvs
  | with_reducible exact frz_qvs
  | with_reducible exact eq_same
  | with_reducible exact ne_same
  | with_reducible exact ne_nil _
  | with_reducible exact eq_int _ _
  | with_reducible exact ne_int _ _
  | with_reducible exact cmp_int
  | with_reducible exact lt_int
  | with_reducible exact add_int
  | with_reducible exact sub_int
  | with_reducible exact seq_TX
  | with_reducible exact seq_DF
  | with_reducible exact seq_ints
  | with_reducible exact seq_qvs
  | with_reducible exact fz_prs0
  | with_reducible exact tuple_prs
  | with_reducible exact dictI_MK _
  | with_reducible apply w_gown
  | with_reducible exact la_ints
  | with_reducible exact frz_lints
  | with_reducible exact pk_sw4
  | with_reducible exact pk_dd
  | exact rfl)
def rT4 : SM := (seqS (setS 17 C__law_right_2) (frzS 17 (retS (opM eqD (unM reprD (varM 17)) (unM reprD C__law_right_3)))))
def rT3 : SM := (seqS (setS 12 (ownM (consM (callM ⟨4, 4, [false, false, false, false], [0, 1, 2, 3], []⟩ f_cost_of (consM (varM 1) (consM (varM 2) (consM (varM 3) (consM (varM 15) nilM))))) (consM (callM ⟨4, 4, [false, false, false, false], [3, 2, 1, 0], []⟩ f_cost_of (consM (varM 15) (consM (varM 3) (consM (varM 2) (consM (varM 1) nilM))))) nilM)))) (seqS (ifS (boolM (opM neD (unM reprD (varM 12)) (unM reprD (lstM (consM (varM 16) (consM (varM 16) nilM)))))) (retS (cstM (.bl false))) skipS) rT4))
def rT2 : SM := (seqS (setS 15 (fzM (makeM ⟨3, 3, [false, false, false], [0, 1, 2], [.int 1, .int 1, .non]⟩ "Costs" f_CostsD_initD (consM (opM ixD (varM 4) (cstM (.int 0))) (consM (opM ixD (varM 4) (cstM (.int 1))) (consM (opM ixD (varM 4) (cstM (.int 2))) nilM)))))) (seqS (setS 16 (fzM (callM ⟨4, 4, [false, false, false, false], [0, 1, 2, 3], []⟩ f__law_cost (consM (varM 1) (consM (varM 2) (consM (varM 3) (consM (varM 4) nilM))))))) rT3))
def rT1 : SM := (seqS (setS 14 (lstM (consM (callM ⟨3, 3, [false, false, false], [2, 1, 0], []⟩ f_blocks_of (consM (varM 3) (consM (varM 2) (consM (unM tupleD (varM 1)) nilM)))) nilM))) (seqS (dropS (appM 14 (callM ⟨3, 3, [false, false, false], [2, 1, 0], []⟩ f_gone_lines (consM (varM 3) (consM (unM tupleD (varM 2)) (consM (varM 1) nilM)))))) (seqS (setS 14 (opM addD (varM 14) (lstM (consM (callM ⟨3, 3, [false, false, false], [2, 1, 0], []⟩ f_come_lines (consM (varM 3) (consM (varM 2) (consM (varM 1) nilM)))) (consM (callM ⟨3, 3, [false, false, false], [2, 1, 0], []⟩ f_kept_lines (consM (varM 3) (consM (varM 2) (consM (varM 1) nilM)))) nilM))))) (seqS (ifS (orB (boolM (opM neD (unM reprD (varM 14)) (unM reprD (varM 9)))) (boolM (opM neD (unM reprD (lstM (consM (varM 1) (consM (varM 2) (consM (varM 3) nilM))))) (varM 10)))) (retS (cstM (.bl false))) skipS) (seqS (ifS (orB (boolM (opM neD (unM sortedA (opM addD (varM 6) (varM 8))) (lrg2M (cstM (.int 1)) (opM addD (unM lenD (varM 1)) (cstM (.int 1)))))) (boolM (opM neD (opM addD (unM lenD (varM 7)) (unM lenD (varM 8))) (unM lenD (varM 2))))) (retS (cstM (.bl false))) skipS) rT2)))))
theorem rT_eq : b__law_right = (seqS (par2S 4 5 (consM (fzM (callM ⟨1, 1, [true], [0], []⟩ f__law_costs (consM (varM 0) nilM))) (consM (fzM (callM ⟨3, 3, [false, false, false], [0, 1, 2], []⟩ f__law_blocks (consM (varM 1) (consM (varM 2) (consM (varM 3) nilM))))) nilM))) (seqS (asgS (callM ⟨1, 1, [false], [0], []⟩ f__law_by_blocks (consM (varM 5) nilM)) (tupG 2 (consG (nameG 6) (consG (nameG 7) nilG)))) (seqS (setS 8 C__law_right_1) (frzS 8 (seqS (par2S 9 10 (consM (fzM (lstM (consM (varM 5) (consM (varM 6) (consM (varM 7) (consM (varM 8) nilM)))))) (consM (fzM (unM reprD (lstM (consM (varM 1) (consM (varM 2) (consM (varM 3) nilM)))))) nilM))) (seqS F__law_right_1 rT1)))))) := rfl
theorem rT4_ok {P : D} {old new : List Str} {ps : List (Int × Int)} {FE s5 s6 s7 s8 s9 s10 s11 s12 s13 s14 s15 s16 : Option D} (ho : okT old) (hn : okT new) (h : okD old new ps) :
    rT4 [some P, some (TX old), some (TX new), some (DF ps), FE, s5, s6, s7, s8, s9, s10, s11, s12, s13, s14, s15, s16, none, none, none, none] = .rt (.bl true) [some P, some (TX old), some (TX new), some (DF ps), FE, s5, s6, s7, s8, s9, s10, s11, s12, s13, s14, s15, s16, some (.lst (mates old.length ps)), none, none, none] := by
  have hb := okD_bd ho hn h
  have h60 := ho.1
  have hb2 : ∀ p ∈ ps, 1 ≤ p.2 ∧ p.2 ≤ 60 := fun p hp => ⟨(hb p hp).2.2.1, (hb p hp).2.2.2⟩
  obtain ⟨s4, m1, m2⟩ := repr_mates (n := old.length) (ps := ps) (by omega) hb2
  have c2 := C_right2_ok ho hn h (s0 := some P) (s4 := FE) (s5 := s5) (s6 := s6) (s7 := s7) (s8 := s8) (s9 := s9) (s10 := s10) (s11 := s11) (s12 := s12) (s13 := s13) (s14 := s14) (s15 := s15) (s16 := s16) (s17 := none) (s18 := none) (s19 := none)
  have c3 := C_right3_ok ho hn h (s0 := some P) (s4 := FE) (s5 := s5) (s6 := s6) (s7 := s7) (s8 := s8) (s9 := s9) (s10 := s10) (s11 := s11) (s12 := s12) (s13 := s13) (s14 := s14) (s15 := s15) (s16 := s16) (s17 := some (.lst (mates old.length ps))) (s18 := none) (s19 := none)
  have fm : frzL (mates old.length ps) = mates old.length ps := frz_mates hb2
  have fm : (D.own (mates old.length ps)).frz = .lst (mates old.length ps) := by simp only [D.frz, fm]
  generalize mates old.length ps = M at *
  unfold rT4
  walk_at "go"
theorem rT3_ok {P : D} {old new : List Str} {ps : List (Int × Int)} {pl : Int × Int} {own : List (Str × (Int × Int))} {FE s5 s6 s7 s8 s9 s10 s11 s12 s13 s14 : Option D} {S : Int} {s3 : Str} {e' : Mx.Env}
    (co : f_cost_of [TX old, TX new, DF ps, CO pl (kept own pl)] = .ok (.int S) [TX old, TX new, DF ps, CO pl (kept own pl)]) (i1 : reprD (.own [.int S, .int S]) = some (.str s3))
    (hr : rT4 [some P, some (TX old), some (TX new), some (DF ps), FE, s5, s6, s7, s8, s9, s10, s11, some (.own [.int S, .int S]), s13, s14, some (CO pl (kept own pl)), some (.int S), none, none, none, none] = .rt (.bl true) e') :
    rT3 [some P, some (TX old), some (TX new), some (DF ps), FE, s5, s6, s7, s8, s9, s10, s11, s12, s13, s14, some (CO pl (kept own pl)), some (.int S), none, none, none, none] = .rt (.bl true) e' := by
  have fO : (CO pl (kept own pl)).fz = true := fz_CO _ _
  have fP : (DF ps).fz = true := rfl
  unfold rT3
  walk_at "go"
theorem rT2_ok {P : D} {old new : List Str} {ps : List (Int × Int)} {pl : Int × Int} {own : List (Str × (Int × Int))} {s5 s6 s7 s8 s9 s10 s11 s12 s13 s14 : Option D} {S : Int} {e' : Mx.Env}
    (mk : f_CostsD_initD [.oobj "Costs" [] [], .int pl.1, .int pl.2, DC own] = .ok .non [OC pl (kept own pl), .int pl.1, .int pl.2, DC own])
    (cm : f__law_cost [TX old, TX new, DF ps, .tup [.int pl.1, .int pl.2, DC own]] = .ok (.int S) [TX old, TX new, DF ps, .tup [.int pl.1, .int pl.2, DC own]])
    (hr : rT3 [some P, some (TX old), some (TX new), some (DF ps), some (.tup [.int pl.1, .int pl.2, DC own]), s5, s6, s7, s8, s9, s10, s11, s12, s13, s14, some (CO pl (kept own pl)), some (.int S), none, none, none, none] = .rt (.bl true) e') :
    rT2 [some P, some (TX old), some (TX new), some (DF ps), some (.tup [.int pl.1, .int pl.2, DC own]), s5, s6, s7, s8, s9, s10, s11, s12, s13, s14, none, none, none, none, none, none] = .rt (.bl true) e' := by
  have fD : (DC own).fz = true := rfl
  have fF : (D.tup [.int pl.1, .int pl.2, DC own]).fz = true := rfl
  have fP : (DF ps).fz = true := rfl
  unfold rT2
  walk_at "go"
theorem rT1_ok {P : D} {old new : List Str} {ps : List (Int × Int)} {fees : D} {s11 s12 s13 : Option D} {s1 s2 : Str} {e' : Mx.Env} (ho : okT old) (hn : okT new) (h : okD old new ps)
    (r1 : reprD (.lst [.lst ((blocks old.length new.length ps).map QV), .lst ((without old.length (ps.map (·.1))).map IN), .lst ((without new.length (ps.map (·.2))).map IN), .lst ((ps.map (·.1)).map IN)]) = some (.str s1)) (r2 : reprD (.own [.lst ((blocks old.length new.length ps).map QV), .lst ((without old.length (ps.map (·.1))).map IN), .lst ((without new.length (ps.map (·.2))).map IN), .lst ((ps.map (·.1)).map IN)]) = some (.str s1))
    (q2 : reprD (.own [TX old, TX new, DF ps]) = some (.str s2))
    (hr : rT2 [some P, some (TX old), some (TX new), some (DF ps), some fees, some (.lst ((blocks old.length new.length ps).map QV)), some (.lst ((without old.length (ps.map (·.1))).map IN)), some (.lst ((without new.length (ps.map (·.2))).map IN)), some (.lst ((ps.map (·.1)).map IN)), some (.lst [.lst ((blocks old.length new.length ps).map QV), .lst ((without old.length (ps.map (·.1))).map IN), .lst ((without new.length (ps.map (·.2))).map IN), .lst ((ps.map (·.1)).map IN)]), some (.str s2), s11, s12, s13, some (.own [.lst ((blocks old.length new.length ps).map QV), .lst ((without old.length (ps.map (·.1))).map IN), .lst ((without new.length (ps.map (·.2))).map IN), .lst ((ps.map (·.1)).map IN)]), none, none, none, none, none, none] = .rt (.bl true) e') :
    rT1 [some P, some (TX old), some (TX new), some (DF ps), some fees, some (.lst ((blocks old.length new.length ps).map QV)), some (.lst ((without old.length (ps.map (·.1))).map IN)), some (.lst ((without new.length (ps.map (·.2))).map IN)), some (.lst ((ps.map (·.1)).map IN)), some (.lst [.lst ((blocks old.length new.length ps).map QV), .lst ((without old.length (ps.map (·.1))).map IN), .lst ((without new.length (ps.map (·.2))).map IN), .lst ((ps.map (·.1)).map IN)]), some (.str s2), s11, s12, s13, none, none, none, none, none, none, none] = .rt (.bl true) e' := by
  have h60 := ho.1
  have n60 := hn.1
  have hlen := okD_len h
  have w1 := without_len old.length (ps.map (·.1))
  have w2 := without_len new.length (ps.map (·.2))
  have fP : (DF ps).fz = true := rfl
  -- with tuples
  have tt1 : tupleD (TX old) = some (TV true old) := rfl
  have tt2 : tupleD (TX new) = some (TV true new) := rfl
  have vt1 : (TV true old).fz = true := rfl
  have vt2 : (TV true new).fz = true := rfl
  have b1 : f_blocks_of [TV true old, TX new, DF ps] = .ok (.own ((blocks old.length new.length ps).map QV)) [TV true old, TX new, DF ps] := blocks_of_ok (ta := true) (tb := false) ho hn h
  have b2 : f_gone_lines [TX old, TV true new, DF ps] = .ok (.own ((without old.length (ps.map (·.1))).map IN)) [TX old, TV true new, DF ps] := gone_lines_ok (ta := false) (tb := true) ho hn h
  have b3 : f_come_lines [TX old, TX new, DF ps] = .ok (.own ((without new.length (ps.map (·.2))).map IN)) [TX old, TX new, DF ps] := come_lines_ok (ta := false) (tb := false) ho hn h
  have b4 : f_kept_lines [TX old, TX new, DF ps] = .ok (.own ((ps.map (·.1)).map IN)) [TX old, TX new, DF ps] := kept_lines_ok (a := false) (b := false) ho hn h
  -- all lines
  have a1 := add_ints (g := without old.length (ps.map (·.1))) (h := ps.map (·.1)) (by omega) (by simp; omega)
  have a2 := sortedA_ints (without old.length (ps.map (·.1)) ++ ps.map (·.1))
  rw [srt_all (okD_fst h).1 (okD_fst h).2] at a2
  have a3 := ne_ints_same (lns 1 old.length)
  have a3 : neD (.own ((lns 1 old.length).map IN)) (.own (rangeD 1 (((old.length : Int) + 1 - 1).toNat))) = some (.bl false) := by
    rw [range_lns]; exact a3
  have a4 := len_all (okD_snd h).1 (okD_snd h).2
  have a5 : ¬ (((without new.length (ps.map (·.2))).length : Int) + ((ps.map (·.1)).length : Int) ≠ (new.length : Int)) := by
    have e : (ps.map (·.1)).length = (ps.map (·.2)).length := by simp
    rw [e]
    omega
  have small : ((old.length : Int) + 1 - 1).toNat ≤ 16777216 := by omega
  generalize blocks old.length new.length ps = Q at *
  generalize without old.length (ps.map (·.1)) = G at *
  generalize without new.length (ps.map (·.2)) = C at *
  generalize ps.map (·.1) = K at *
  have af : addD (.own ([.lst (Q.map QV)] ++ [.lst (G.map IN)])) (.own [.lst (C.map IN), .lst (K.map IN)]) = some (.own [.lst (Q.map QV), .lst (G.map IN), .lst (C.map IN), .lst (K.map IN)]) := rfl
  unfold rT1
  walk_at "go"
theorem right_ok {a b : Int} {old new : List Str} {ps : List (Int × Int)} (hp : okPot a b) (ho : okT old) (hn : okT new) (h : okD old new ps) : ∃ a' b', f__law_right [POT a b, TX old, TX new, DF ps] = .ok (.bl true) [POT a' b', TX old, TX new, DF ps] ∧ okPot a' b' := by
  obtain ⟨a', b', pl, own, k1, k2, hC, hO⟩ := law_costs_ok hp
  refine ⟨a', b', ?_, k2⟩
  have h60 := ho.1
  have n60 := hn.1
  have hlen := okD_len h
  have hl : ps.length ≤ 60 := by omega
  have hb := okD_bd ho hn h
  have hb2 : ∀ p ∈ ps, 1 ≤ p.2 ∧ p.2 ≤ 60 := fun p hp => ⟨(hb p hp).2.2.1, (hb p hp).2.2.2⟩
  have bl := blocks_len ho h
  have bb : ∀ q ∈ blocks old.length new.length ps, bdQ q := blocks_bd ho hn h
  have lb := law_blocks_ok (new := new) ho h
  have by_ := by_blocks_ok bb bl
  rw [(goes_blocks h).1, (goes_blocks h).2] at by_
  have w1 := without_len old.length (ps.map (·.1))
  have w2 := without_len new.length (ps.map (·.2))
  -- the texts that are compared
  obtain ⟨s1, r1, r2, r3⟩ := repr_told (q := blocks old.length new.length ps) (g := without old.length (ps.map (·.1))) (c := without new.length (ps.map (·.2))) (k := ps.map (·.1)) bb bl
    (fun x hx => by have := mem_without hx; omega) (fun x hx => by have := mem_without hx; omega) (fun x hx => by have := (okD_fst h).2 x hx; omega) (by omega) (by omega) (by simp; omega)
  obtain ⟨s2, q1, q2⟩ := repr_three ((rp_TX ho).mono (Nat.le_succ _) (by omega)) ((rp_TX hn).mono (Nat.le_succ _) (by omega)) (rp_DF hb hl)
  obtain ⟨t11, t12, t13, F1⟩ := F_right1_ok (P := POT a' b') (fees := .tup [.int pl.1, .int pl.2, DC own]) (s5 := some (.lst ((blocks old.length new.length ps).map QV))) (s6 := some (.lst ((without old.length (ps.map (·.1))).map IN))) (s7 := some (.lst ((without new.length (ps.map (·.2))).map IN))) (s8 := some (.lst ((ps.map (·.1)).map IN)))
    (s10 := some (.str s2)) (s11 := none) (s12 := none) (s13 := none) (s14 := none) (s15 := none) (s16 := none) (s17 := none) (s18 := none) (s19 := none) (s20 := none) ho hn h r1 r3
  have fD : (DC own).fz = true := rfl
  have fF : (D.tup [.int pl.1, .int pl.2, DC own]).fz = true := rfl
  have fP : (DF ps).fz = true := rfl
  have c1 := fun s0 s1 s2 s4 s5 s6 s7 s8 s9 s10 => C_right1_ok (ps := ps) hl (s0 := s0) (s1 := s1) (s2 := s2) (s4 := s4) (s5 := s5) (s6 := s6) (s7 := s7) (s8 := s8) (s9 := s9) (s10 := s10) (s11 := none) (s12 := none) (s13 := none) (s14 := none) (s15 := none) (s16 := none) (s17 := none) (s20 := none)
  have c1 := c1 (some (POT a' b')) (some (TX old)) (some (TX new)) (some (.tup [.int pl.1, .int pl.2, DC own])) (some (.lst ((blocks old.length new.length ps).map QV))) (some (.lst ((without old.length (ps.map (·.1))).map IN))) (some (.lst ((without new.length (ps.map (·.2))).map IN))) none none none
  have g1 := goneI_bd (ps := ps) ho hO hC
  have g2 := comeI_bd (ps := ps) hn hO hC
  obtain ⟨s3, i1⟩ := repr_int2 (i := (goneI pl own old ps).sum + (comeI pl own new ps).sum) (by omega)
  have cm := law_cost_ok (old := old) (new := new) (ps := ps) (pl := pl) (own := own) hl
  have mk := init_ok hO hC
  have co : f_cost_of [TX old, TX new, DF ps, CO pl (kept own pl)] = .ok (.int ((goneI pl own old ps).sum + (comeI pl own new ps).sum)) [TX old, TX new, DF ps, CO pl (kept own pl)] := by
    rw [← gone_kept hO, ← come_kept hO]
    exact cost_of_ok (ta := false) (tb := false) ho hn h
  have T4 := rT4_ok (P := POT a' b') (FE := some (.tup [.int pl.1, .int pl.2, DC own])) (s5 := some (.lst ((blocks old.length new.length ps).map QV))) (s6 := some (.lst ((without old.length (ps.map (·.1))).map IN))) (s7 := some (.lst ((without new.length (ps.map (·.2))).map IN))) (s8 := some (.lst ((ps.map (·.1)).map IN))) (s9 := some (.lst [.lst ((blocks old.length new.length ps).map QV), .lst ((without old.length (ps.map (·.1))).map IN), .lst ((without new.length (ps.map (·.2))).map IN), .lst ((ps.map (·.1)).map IN)])) (s10 := some (.str s2)) (s11 := t11) (s13 := t13) (s14 := some (.own [.lst ((blocks old.length new.length ps).map QV), .lst ((without old.length (ps.map (·.1))).map IN), .lst ((without new.length (ps.map (·.2))).map IN), .lst ((ps.map (·.1)).map IN)])) (s12 := some (.own [.int ((goneI pl own old ps).sum + (comeI pl own new ps).sum), .int ((goneI pl own old ps).sum + (comeI pl own new ps).sum)])) (s15 := some (CO pl (kept own pl))) (s16 := some (.int ((goneI pl own old ps).sum + (comeI pl own new ps).sum))) ho hn h
  have T3 := rT3_ok (s12 := t12) co i1 T4
  have T2 := rT2_ok mk cm T3
  have T1 := rT1_ok ho hn h r1 r2 q2 T2
  generalize blocks old.length new.length ps = Q at *
  generalize without old.length (ps.map (·.1)) = G at *
  generalize without new.length (ps.map (·.2)) = C at *
  generalize ps.map (·.1) = K at *
  unfold f__law_right
  rw [rT_eq]
  walk_at "go"
end Lw
set_option Elab.async false
set_option linter.all false
set_option maxRecDepth 100000
set_option maxHeartbeats 1000000
namespace Lw
open PySem L2 Mx
local macro_rules | `(tactic| walk_at "leaf") => `(tactic| exact rfl)
local macro_rules | `(tactic| walk_at "one") => `(tactic| first
  | with_reducible assumption
  | with_reducible exact small_le (by omega) (by omega)
  | with_reducible apply w_fn
  | with_reducible apply w_finN
  | with_reducible apply w_finR
  | with_reducible apply w_seqN
  | with_reducible exact w_seqR
  | with_reducible exact w_seqB
  | with_reducible exact w_seqC
  | with_reducible apply w_seq
  | with_reducible exact w_skip
  | with_reducible exact w_brk
  | with_reducible exact w_cnt
  | with_reducible exact w_retN
  | with_reducible apply w_if
  | with_reducible apply w_ret
  | with_reducible apply w_set
  | with_reducible apply w_drop
  | with_reducible apply w_frz
  | with_reducible apply w_asg
  | with_reducible apply w_par2
  | with_reducible apply w_par3
  | with_reducible apply cs_T
  | with_reducible apply cs_F
  | with_reducible apply cs_nT
  | with_reducible apply cs_nF
  | with_reducible refine' cs_Td (by assumption) ?_
  | with_reducible refine' cs_Fd (by assumption) ?_
  | with_reducible refine' cs_nTd (by assumption) ?_
  | with_reducible refine' cs_nFd (by assumption) ?_
  | with_reducible refine' cs_Th (by assumption) ?_
  | with_reducible refine' cs_Fh (by assumption) ?_
  | with_reducible refine' cs_Td (by omega) ?_
  | with_reducible refine' cs_Fd (by omega) ?_
  | with_reducible exact cs_not
  | with_reducible apply w_op
  | with_reducible apply w_un
  | with_reducible apply w_bool
  | with_reducible apply w_and
  | with_reducible apply w_or
  | with_reducible apply w_not
  | with_reducible apply w_andV
  | with_reducible apply w_orV
  | with_reducible apply w_notV
  | with_reducible apply w_ifM
  | with_reducible apply w_cons
  | with_reducible exact w_nil
  | with_reducible exact w_cst
  | with_reducible exact w_yes
  | with_reducible apply w_tup
  | with_reducible apply w_lst
  | with_reducible exact w_var rfl
  | with_reducible apply w_mov
  | with_reducible apply w_vfz
  | with_reducible apply w_fz
  | with_reducible apply w_vals
  | with_reducible exact w_vals0
  | with_reducible apply w_app
  | with_reducible apply w_slNS
  | with_reducible apply w_lrg2
  | with_reducible apply w_get1
  | with_reducible apply w_get2
  | with_reducible apply w_own
  | with_reducible apply w_apo
  | with_reducible apply w_forAp
  | with_reducible apply w_slSN
  | with_reducible apply w_slSS
  | with_reducible apply w_slNN
  | with_reducible apply w_seqIt
  | with_reducible apply w_rng1
  | with_reducible apply w_rng2
  | with_reducible apply w_enum
  | with_reducible apply w_items
  | with_reducible apply w_zip
  | with_reducible apply w_gname
  | with_reducible apply w_gcons
  | with_reducible exact w_gnil
  | with_reducible apply w_gsub
  | apply w_gtup
  | with_reducible apply w_callM
  | with_reducible apply w_callV
  | with_reducible apply w_methV
  | with_reducible apply w_make
  | with_reducible exact lt_ble rfl
  | with_reducible exact le_ble rfl
  | with_reducible exact ls0
  | with_reducible exact ls1
  | with_reducible exact ls2
  | with_reducible exact ls3
  | with_reducible exact ls4
  | with_reducible exact ls5
  | with_reducible exact ls6
  | with_reducible exact ls7
  | with_reducible exact ls8
  | with_reducible exact ls9
  | with_reducible exact ls10
  | with_reducible exact ls11
  | with_reducible exact ls12
  | with_reducible exact ls13
  | with_reducible exact ls14
  | with_reducible exact ls15
  | with_reducible exact ls16
  | with_reducible exact ls17
  | with_reducible exact ls18
  | with_reducible exact ls19
  | with_reducible exact ls20
  | with_reducible exact ls21
  | with_reducible exact ls22
  | with_reducible exact ls23
  | with_reducible exact ls24
  | with_reducible exact ls25
  | with_reducible exact pk0
  | with_reducible exact pk1
  | with_reducible exact pk2
  | with_reducible exact pk3
  | with_reducible exact pk4
  | with_reducible exact pk5
  | with_reducible exact pk6
  | with_reducible exact pk7
  | with_reducible exact pk8
  | with_reducible apply env_cons
  | with_reducible exact rp0
  | with_reducible exact rp1
  | with_reducible exact rp2
  | with_reducible exact rp3
  | with_reducible exact rp4
  | with_reducible exact rp5
  | with_reducible exact rp6
  | with_reducible exact rp7
  | with_reducible exact rp8
  | with_reducible exact rp9
  | with_reducible exact rp10
  | with_reducible exact rp11
  | with_reducible exact rp12
  | with_reducible exact rp13
  | with_reducible exact rp14
  | with_reducible exact rp15
  | with_reducible exact rp16
  | with_reducible exact rp17
  | with_reducible exact rp18
  | with_reducible exact rp19
  | with_reducible exact rp20
  | with_reducible exact rp21
  | with_reducible exact rp22
  | with_reducible exact rp23
  | with_reducible exact rp24
  | with_reducible exact rp25
  | with_reducible exact pk_sw2
  | with_reducible exact pk_sw3
  | with_reducible exact w_derf rfl
  | ((with_reducible apply w_valrf) <;> exact rfl)
  | with_reducible exact w_valrf rfl (by assumption)
  | ((with_reducible refine val_of ?_); exact rfl)
  | ((with_reducible refine notin_of ?_); decide)
  | ((with_reducible refine val_ownL ?_); exact rfl)
  | ((with_reducible refine deref_of ?_); exact rfl)
  | ((with_reducible apply w_puvf) <;> exact rfl)
  | with_reducible exact w_puvf rfl (by assumption)
  | ((with_reducible refine putV_of ?_); exact rfl)
  | walk_at "leaf")
local macro_rules | `(tactic| walk_at "go") => `(tactic| repeat' (walk_at "one"))
local macro_rules | `(tactic| walk_at "leaf") => `(tactic| first
  | with_reducible exact la_TX _
  | with_reducible exact val_OC
  | with_reducible exact val_ints
  | with_reducible exact val_prs
  | with_reducible exact val_strs
  | with_reducible exact val_qvs
  | with_reducible exact frz_qvs
  | with_reducible exact eq_same
  | with_reducible exact ne_same
  | with_reducible exact ne_nil _
  | with_reducible exact eq_int _ _
  | with_reducible exact ne_int _ _
  | with_reducible exact cmp_int
  | with_reducible exact lt_int
  | with_reducible exact add_int
  | with_reducible exact sub_int
  | with_reducible exact seq_TX
  | with_reducible exact seq_DF
  | with_reducible exact seq_ints
  | with_reducible exact seq_qvs
  | with_reducible exact fz_prs0
  | with_reducible exact tuple_prs
  | with_reducible exact dictI_MK _
  | with_reducible apply w_gown
  | with_reducible exact la_ints
  | with_reducible exact frz_lints
  | with_reducible exact pk_sw4
  | with_reducible exact pk_dd
  | exact rfl)
theorem L1_ok {a b : Int} {S k t s7 s8 : Option D} {old new : List Str} {ps : List (Int × Int)} (hp : okPot a b) (ho : okT old) (hn : okT new) (h : okD old new ps) : ∃ a' b', L_law_1 [S, k, some (POT a b), t, some (TX old), some (TX new), some (DF ps), s7, s8] = .nx [S, k, some (POT a' b'), t, some (TX old), some (TX new), some (DF ps), s7, s8] ∧ okPot a' b' := by
  obtain ⟨a', b', e, o⟩ := right_ok hp ho hn h
  have fP : (DF ps).fz = true := rfl
  refine ⟨a', b', ?_, o⟩
  unfold L_law_1
  walk_at "go"
theorem okD_nil (old new : List Str) : okD old new [] := ⟨by simp, by simp⟩
theorem F1_ok {a b : Int} {S k t z s7 s8 : Option D} {old new : List Str} (hp : okPot a b) (ho : okT old) (hn : okT new) : ∃ a' b' z', F_law_1 [S, k, some (POT a b), t, some (TX old), some (TX new), z, s7, s8] = .nx [S, k, some (POT a' b'), t, some (TX old), some (TX new), z', s7, s8] ∧ okPot a' b' := by
  obtain ⟨a0, b0, ps, e1, o1, h1⟩ := law_diff_ok hp ho hn
  obtain ⟨a1, b1, qs, e2, o2, h2⟩ := law_diff_ok o1 ho hn
  obtain ⟨a2, b2, e3, o3⟩ := L1_ok (S := S) (k := k) (t := t) (s7 := s7) (s8 := s8) o2 ho hn h1
  obtain ⟨a3, b3, e4, o4⟩ := L1_ok (S := S) (k := k) (t := t) (s7 := s7) (s8 := s8) o3 ho hn h2
  obtain ⟨a4, b4, e5, o5⟩ := L1_ok (S := S) (k := k) (t := t) (s7 := s7) (s8 := s8) o4 ho hn (okD_nil old new)
  refine ⟨a4, b4, some (DF []), ?_, o5⟩
  have hL : forL (nameG 6) L_law_1 [DF ps, DF qs, DF []] [S, k, some (POT a1 b1), t, some (TX old), some (TX new), z, s7, s8] = .nx [S, k, some (POT a4 b4), t, some (TX old), some (TX new), some (DF []), s7, s8] := by
    simp only [forL, nameG, List.length_cons, List.length_nil, Nat.zero_add, Nat.reduceAdd, Nat.reduceLT, if_true, List.set_cons_succ, List.set_cons_zero, e3, e4, e5]
  have hv : ∀ e : Mx.Env, val e (.own [DF ps, DF qs, .ptp []]) = some (.lst [DF ps, DF qs, DF []]) := fun e => rfl
  have hv := hv [S, k, some (POT a1 b1), t, some (TX old), some (TX new), z, s7, s8]
  have f1 : (DF ps).fz = true := rfl
  have f2 : (DF qs).fz = true := rfl
  unfold F_law_1
  apply w_for (h2 := hL)
  walk_at "go"
/-- each line with itself -/
def selfD (n : Nat) : List (Int × Int) := (List.range n).map fun k : Nat => ((k : Int) + 1, (k : Int) + 1)
theorem okD_self (xs : List Str) : okD xs xs (selfD xs.length) := by
  refine ⟨fun p hp => ?_, ?_⟩
  · obtain ⟨k, hk, rfl⟩ := List.mem_map.mp hp
    rw [List.mem_range] at hk
    exact ⟨by show (1 : Int) ≤ k + 1; omega, by show (k : Int) + 1 ≤ xs.length; omega, by show (1 : Int) ≤ k + 1; omega, by show (k : Int) + 1 ≤ xs.length; omega, rfl⟩
  · simp only [selfD]
    rw [List.pairwise_map]
    exact List.pairwise_lt_range.imp fun h => ⟨by show (_ : Int) + 1 < _ + 1; omega, by show (_ : Int) + 1 < _ + 1; omega⟩
theorem C1_ok {xs : List Str} (hx : okT xs) {S k p t s5 s6 s7 : Option D} : C_law_1 [S, k, p, t, some (TX xs), s5, s6, s7, none] = .ok (.own ((selfD xs.length).map PR)) [S, k, p, t, some (TX xs), s5, s6, s7, none] := by
  have h60 := hx.1
  have l1 : lcL [8] (nameG 8) yesB E_law_1 ((List.range xs.length).map fun k : Nat => D.int (0 + (k : Int))) [S, k, p, t, some (TX xs), s5, s6, s7, none] [] = .ok (.own ((List.range xs.length).map fun k : Nat => PR ((k : Int) + 1, (k : Int) + 1))) [S, k, p, t, some (TX xs), s5, s6, s7, none] := by
    refine lcL_all rfl (fun k : Nat => D.int (0 + (k : Int))) (fun k : Nat => PR ((k : Int) + 1, (k : Int) + 1)) (List.range xs.length) (fun n hn => ?_) (by simp; omega)
    have ad : addD (.int (0 + (n : Int))) (.int 1) = some (.int ((n : Int) + 1)) := by
      rw [Int.zero_add]; rfl
    refine ⟨[S, k, p, t, some (TX xs), s5, s6, s7, some (.int (0 + (n : Int)))], .tup [.int ((n : Int) + 1), .int ((n : Int) + 1)], [S, k, p, t, some (TX xs), s5, s6, s7, some (.int (0 + (n : Int)))], rfl, ?_, rfl, rfl⟩
    unfold E_law_1
    walk_at "go"
  simp only [selfD, List.map_map]
  apply w_lc (hl := l1)
  · have e : (List.range xs.length).map (fun k : Nat => D.int (0 + (k : Int))) = rangeD 0 ((xs.length : Int)).toNat := by simp only [rangeD, Int.toNat_natCast]
    rw [e]
    walk_at "go"
  · rfl
  · rfl
theorem L2_ok {a b : Int} {S k t x y z w : Option D} (hp : okPot a b) : ∃ a' b' x' y' z' w', L_law_2 [S, k, some (POT a b), t, x, y, z, w, none] = .nx [S, k, some (POT a' b'), t, x', y', z', w', none] ∧ okPot a' b' := by
  obtain ⟨a1, b1, m, p1, p2, p3⟩ := pick_ok (ds := [.int 3, .int 12, .int 12, .int 60]) hp (by decide) (by decide) rfl (by simp [D.fz])
  obtain ⟨i, rfl, hi⟩ : ∃ i : Int, m = .int i ∧ 0 ≤ i ∧ i ≤ 60 := by
    simp only [List.mem_cons, List.not_mem_nil, or_false] at p3
    rcases p3 with rfl | rfl | rfl | rfl
    · exact ⟨3, rfl, by omega⟩
    · exact ⟨12, rfl, by omega⟩
    · exact ⟨12, rfl, by omega⟩
    · exact ⟨60, rfl, by omega⟩
  obtain ⟨a2, b2, xs, ys, q1, q2, q3, q4, _, _⟩ := two_ok p2 hi
  obtain ⟨a3, b3, z', r1, r2⟩ := F1_ok (S := S) (k := k) (t := t) (z := z) (s7 := w) (s8 := none) q2 q3 q4
  obtain ⟨a4, b4, u1, u2⟩ := right_ok r2 q3 q3 (okD_self xs)
  have okN : okT [] := ⟨by simp, by simp⟩
  obtain ⟨a5, b5, v1, v2⟩ := right_ok u2 okN q4 (okD_nil [] ys)
  have v1 : f__law_right [POT a4 b4, .lst [], TX ys, .ptp []] = .ok (.bl true) [POT a5 b5, .lst [], TX ys, .ptp []] := v1
  have c1 := fun S k p t s5 s6 s7 => C1_ok q3 (S := S) (k := k) (p := p) (t := t) (s5 := s5) (s6 := s6) (s7 := s7)
  have c1 := c1 S k (some (POT a3 b3)) t (some (TX ys)) z' w
  have ls : listD (TX xs) = some (.own (xs.map .str)) := rfl
  have fP : (DF (selfD xs.length)).fz = true := rfl
  refine ⟨a5, b5, some (TX xs), some (TX ys), z', some (DF (selfD xs.length)), ?_, v2⟩
  unfold L_law_2
  walk_at "go"
theorem F2_ok {a b : Int} {S k t x y z w : Option D} (hp : okPot a b) : ∃ a' b' t' x' y' z' w', F_law_2 [S, k, some (POT a b), t, x, y, z, w, none] = .nx [S, k, some (POT a' b'), t', x', y', z', w', none] ∧ okPot a' b' := by
  obtain ⟨e', R, a', b', t', x', y', z', w', o, rfl⟩ := forL_inv (g := nameG 3) (b := L_law_2) (fun e => ∃ a b t x y z w, okPot a b ∧ e = [S, k, some (POT a b), t, x, y, z, w, none]) (rangeD 0 4) [S, k, some (POT a b), t, x, y, z, w, none] (fun d hd e he => by
    obtain ⟨a, b, t, x, y, z, w, o, rfl⟩ := he
    obtain ⟨a', b', x', y', z', w', r, o'⟩ := L2_ok (S := S) (k := k) (t := some d) (x := x) (y := y) (z := z) (w := w) o
    exact ⟨[S, k, some (POT a b), some d, x, y, z, w, none], _, rfl, .inl r, a', b', _, x', y', z', w', o', rfl⟩) ⟨a, b, t, x, y, z, w, hp, rfl⟩
  refine ⟨a', b', t', x', y', z', w', ?_, o⟩
  unfold F_law_2
  apply w_for (h2 := R)
  exact w_rng1 (j := 4) rfl rfl (by decide)
theorem plain (is : List Int) (hl : is.length ≤ 63) : f_law [.scr (is.map .int)] = .ok (.bl true) [.scr (is.map .int)] := by
  have ll : lenD (.scr (is.map .int)) = some (.int is.length) := by simp [lenD, Mx.seqI, lstI]
  have pt : ∀ k : Nat, k ≤ 100 → ∃ a b, f__law_pot [.scr (is.map .int), .int k] = .ok (POT a b) [.scr (is.map .int), .int k] ∧ okPot a b := fun k hk => pot_ok is k hk
  have fS : (D.scr (is.map .int)).fz = true := rfl
  generalize D.scr (is.map .int) = S at *
  obtain ⟨r, hr⟩ : ∃ r : Int, r = (if (if (is.length : Int) < 6 then (is.length : Int) else 6) > 1 then (if (is.length : Int) < 6 then (is.length : Int) else 6) else 1) := ⟨_, rfl⟩
  have hr6 : 0 ≤ r ∧ r ≤ 6 := by subst hr; split <;> split <;> omega
  have m1 : maxD2 (.int 1) (.int (if (is.length : Int) < 6 then (is.length : Int) else 6)) = some (.int r) := by rw [hr]; rfl
  have m2 : minD2 (.int 6) (.int is.length) = some (.int (if (is.length : Int) < 6 then (is.length : Int) else 6)) := rfl
  obtain ⟨e', R, z1, z2, z3, z4, z5, z6, z7, rfl⟩ := forL_inv (g := nameG 1) (b := L_law_3) (fun e => ∃ z1 z2 z3 z4 z5 z6 z7, e = [some S, z1, z2, z3, z4, z5, z6, z7, none]) (rangeD 0 r.toNat) [some S, none, none, none, none, none, none, none, none] (fun d hd e he => by
    obtain ⟨z1, z2, z3, z4, z5, z6, z7, rfl⟩ := he
    obtain ⟨n, hn, rfl⟩ : ∃ n : Nat, n ≤ 100 ∧ d = .int n := by
      simp only [rangeD, List.mem_map, List.mem_range] at hd
      obtain ⟨i, hi, rfl⟩ := hd
      exact ⟨i, by omega, by simp⟩
    obtain ⟨a, b, p1, p2⟩ := pt n hn
    obtain ⟨a', b', t', x', y', z', w', q1, q2⟩ := F2_ok (S := some S) (k := some (.int n)) (t := z3) (x := z4) (y := z5) (z := z6) (w := z7) p2
    refine ⟨[some S, some (.int n), z2, z3, z4, z5, z6, z7, none], _, rfl, .inl ?_, some (.int n), some (POT a' b'), t', x', y', z', w', rfl⟩
    unfold L_law_3
    have pv : ∀ e : Mx.Env, putV e (POT a b) = some (POT a b) := fun _ => rfl
    walk_at "go") ⟨_, _, _, _, _, _, _, rfl⟩
  have F3 : F_law_3 [some S, none, none, none, none, none, none, none, none] = .nx [some S, z1, z2, z3, z4, z5, z6, z7, none] := by
    unfold F_law_3
    apply w_for (h2 := R)
    walk_at "go"
  unfold f_law b_law
  apply w_fn
  · walk_at "go"
  · walk_at "go"
  · apply w_finR
    simp only [fin, Mx.finish, fS, if_true, Option.map_some]
end Lw

theorem PySem.Challenge.cw_mixeddiffs_k14_whole_diffs_taken_apart_holds : PySem.Challenge.rw_mixeddiffs_k14_whole_diffs_taken_apart.Holds := by
  exact Lw.holds_of Lw.plain
