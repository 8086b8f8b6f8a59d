import PyProof.Rows.All
import HandS.ForMost
import HandS.ForExc
import KE.DataEq
import KE.DataAny
import KE.DataMinMax
import KE.DataIsa
import KE.SortData
import HandS.Gcd
import HandS.TupAny
import HandS.TupMul
import HandS.Conv
import HandS.TupSets
import HandS.IsInst
import HandS.Dict
import HandS.WordsDict
import HandS.ExcInit
import HandS.Zip
import HandS.SortKw
import KE.KExcIs
import HandS.CallSlots
import KE.GoesMore
import PySem.Challenge.RW_polywork_k52_whole_parts_of_squares
set_option Elab.async false
set_option linter.all false
set_option autoImplicit false
set_option maxRecDepth 100000
namespace VL
open PySem PySem.Spec L2
open PyProof.Rows hiding St

/-! ## data -/
inductive D where
  | non | bl (b : Bool) | int (i : Int) | str (x : Str) | ty (n : String)
  | lst (xs : List D) | tup (xs : List D)
  | dK (ks : List Key) (xs : List D) | dT (ks : List (List Key)) (xs : List D)
  | obj (c : Addr) (ns : List Str) (xs : List D)
  | exc (a dd : Addr) (n : Str) (x : D)
  | kl (K : PySem.W.Frag) (a : Addr) (ns : List Int)
  deriving Inhabited

structure Cell where
  pin : Bool
  val : Option (Nat × D)
  deriving Inhabited
abbrev Sl := List Cell
abbrev Fps := Nat → List Addr

/-- a value in flight: borrowed?, depth owned, data -/
structure Vl where
  b : Bool
  k : Nat
  d : D
abbrev Vl.fzn (d : D) : Vl := ⟨false, 0, d⟩

inductive R (α : Type) where
  | stuck
  | ok (a : α) (s : Sl)
  | err (c : Addr) (w : Option (Str × D)) (s : Sl)
@[reducible] def R.bind {α β : Type} (r : R α) (f : α → Sl → R β) : R β := match r with
  | .stuck => .stuck
  | .ok a s => f a s
  | .err c w s => .err c w s
def R.wp {α : Type} (r : R α) (ok : α → Sl → Prop) (er : Addr → Option (Str × D) → Sl → Prop) : Prop := match r with
  | .stuck => False
  | .ok a s => ok a s
  | .err c w s => er c w s
theorem R.wp_bind {α β : Type} {r : R α} {f : α → Sl → R β} {ok : β → Sl → Prop} {er : Addr → Option (Str × D) → Sl → Prop} (h : (r.bind f).wp ok er) :
    r.wp (fun a s => (f a s).wp ok er) er := by
  cases r <;> exact h
theorem R.wp_mono {α : Type} {r : R α} {ok ok' : α → Sl → Prop} {er er' : Addr → Option (Str × D) → Sl → Prop} (h : r.wp ok er)
    (h1 : ∀ a s, ok a s → ok' a s) (h2 : ∀ c w s, er c w s → er' c w s) : r.wp ok' er' := by
  cases r with
  | stuck => exact h
  | ok a s => exact h1 a s h
  | err c w s => exact h2 c w s h

/-! ## heaps -/
def Inc (G G' : Hp) : Prop := ∀ a o, G a = some o → G' a = some o
theorem Inc.refl (G : Hp) : Inc G G := fun _ _ h => h
theorem Inc.trans {A B C : Hp} (x : Inc A B) (y : Inc B C) : Inc A C := fun a o h => y a o (x a o h)
/-- what is read stays readable -/
structure Le (G G' : Hp) : Prop where
  rd : ∀ a u, Rd G a u → Rd G' a u
  ins : ∀ a c dx fs, G a = some (.ins c dx fs) → G' a = some (.ins c dx fs)
  lst : ∀ a vs, G a = some (.lst vs) → G' a = some (.lst vs)
  tup : ∀ a vs, G a = some (.tup vs) → G' a = some (.tup vs)
  xd : ∀ a fs, G a = some (.xd fs) → G' a = some (.xd fs)
theorem Inc.le {G G' : Hp} (h : Inc G G') : Le G G' := ⟨fun a u r => r.elim (fun e => .inl (h _ _ e)) fun ⟨o, e⟩ => .inr ⟨o, h _ _ e⟩, fun a c dx fs e => h _ _ e, fun a vs e => h _ _ e, fun a vs e => h _ _ e, fun a fs e => h _ _ e⟩
theorem Le.refl (G : Hp) : Le G G := (Inc.refl G).le

mutual
/-- frozen data: it stands in the frozen part of the heap -/
def Fz (G : Hp) : D → V → Prop
  | .non, v => v = .non
  | .bl b, v => v = .bl b
  | .int i, v => v = .int i
  | .str x, v => v = .str x
  | .ty n, v => v = .ty n
  | .lst ds, v => ∃ a vs, v = .ref a ∧ G a = some (.lst vs) ∧ FzL G ds vs
  | .tup ds, v => ∃ a vs, v = .ref a ∧ G a = some (.tup vs) ∧ FzL G ds vs
  | .dK ks ds, v => ∃ a vs, v = .ref a ∧ Rd G a (.dK (ks.zip vs)) ∧ ks.length = ds.length ∧ FzL G ds vs
  | .dT ks ds, v => ∃ a vs, v = .ref a ∧ Rd G a (.dT (ks.zip vs)) ∧ ks.length = ds.length ∧ FzL G ds vs
  | .obj c ns ds, v => ∃ a dx vs, v = .ref a ∧ G a = some (.ins c dx (ns.zip vs)) ∧ ns.length = ds.length ∧ FzL G ds vs
  | .exc a dd n x, v => v = .ref a ∧ ∃ fs u, G dd = some (.xd fs) ∧ fs.lookup n = some u ∧ Fz G x u
  | .kl K a ns, v => v = .ref a ∧ SqL K G a (ns.map V.int)
def FzL (G : Hp) : List D → List V → Prop
  | [], vs => vs = []
  | d :: ds, vs => ∃ v r, vs = v :: r ∧ Fz G d v ∧ FzL G ds r
end
mutual
theorem Fz.le {G G' : Hp} (m : Le G G') : ∀ (d : D) (v : V), Fz G d v → Fz G' d v
  | .non, v, h => by simpa [Fz] using h
  | .bl b, v, h => by simpa [Fz] using h
  | .int i, v, h => by simpa [Fz] using h
  | .str x, v, h => by simpa [Fz] using h
  | .ty n, v, h => by simpa [Fz] using h
  | .lst ds, v, h => by
    simp only [Fz] at h ⊢
    obtain ⟨a, vs, e, r, q⟩ := h
    exact ⟨a, vs, e, m.lst _ _ r, FzL.le m ds vs q⟩
  | .tup ds, v, h => by
    simp only [Fz] at h ⊢
    obtain ⟨a, vs, e, r, q⟩ := h
    exact ⟨a, vs, e, m.tup _ _ r, FzL.le m ds vs q⟩
  | .dK ks ds, v, h => by
    simp only [Fz] at h ⊢
    obtain ⟨a, vs, e, r, l, q⟩ := h
    exact ⟨a, vs, e, m.rd _ _ r, l, FzL.le m ds vs q⟩
  | .dT ks ds, v, h => by
    simp only [Fz] at h ⊢
    obtain ⟨a, vs, e, r, l, q⟩ := h
    exact ⟨a, vs, e, m.rd _ _ r, l, FzL.le m ds vs q⟩
  | .obj c ns ds, v, h => by
    simp only [Fz] at h ⊢
    obtain ⟨a, dx, vs, e, r, l, q⟩ := h
    exact ⟨a, dx, vs, e, m.ins _ _ _ _ r, l, FzL.le m ds vs q⟩
  | .exc a dd n x, v, h => by
    simp only [Fz] at h ⊢
    obtain ⟨e, fs, u, r, l, q⟩ := h
    exact ⟨e, fs, u, m.xd _ _ r, l, Fz.le m x u q⟩
  | .kl K a ns, v, h => by
    simp only [Fz] at h ⊢
    exact ⟨h.1, h.2.imp (m.rd _ _) id⟩
theorem FzL.le {G G' : Hp} (m : Le G G') : ∀ (ds : List D) (vs : List V), FzL G ds vs → FzL G' ds vs
  | [], vs, h => by simpa [FzL] using h
  | d :: ds, vs, h => by
    simp only [FzL] at h ⊢
    obtain ⟨v, r, e, h1, h2⟩ := h
    exact ⟨v, r, e, Fz.le m d v h1, FzL.le m ds r h2⟩
end
theorem Fz.inc {G G' : Hp} (m : Inc G G') {d : D} {v : V} (h : Fz G d v) : Fz G' d v := Fz.le m.le d v h
theorem FzL.inc {G G' : Hp} (m : Inc G G') {ds : List D} {vs : List V} (h : FzL G ds vs) : FzL G' ds vs := FzL.le m.le ds vs h
theorem FzL.length {G : Hp} : ∀ {ds : List D} {vs : List V}, FzL G ds vs → vs.length = ds.length
  | [], vs, h => by simp only [FzL] at h; subst h; rfl
  | d :: ds, vs, h => by
    simp only [FzL] at h
    obtain ⟨v, r, rfl, _, h2⟩ := h
    simp [FzL.length h2]
theorem FzL.get {G : Hp} : ∀ {ds : List D} {vs : List V} {i : Nat} {d : D}, FzL G ds vs → ds[i]? = some d → ∃ v, vs[i]? = some v ∧ Fz G d v
  | [], vs, i, d, h, e => by simp at e
  | d0 :: ds, vs, 0, d, h, e => by
    simp only [FzL] at h
    obtain ⟨v, r, rfl, h1, _⟩ := h
    simp at e; subst e
    exact ⟨v, rfl, h1⟩
  | d0 :: ds, vs, i + 1, d, h, e => by
    simp only [FzL] at h
    obtain ⟨v, r, rfl, _, h2⟩ := h
    obtain ⟨u, e1, e2⟩ := FzL.get (i := i) h2 (by simpa using e)
    exact ⟨u, by simpa using e1, e2⟩
theorem FzL.get' {G : Hp} {ds : List D} {vs : List V} {i : Nat} {v : V} (h : FzL G ds vs) (e : vs[i]? = some v) : ∃ d, ds[i]? = some d ∧ Fz G d v := by
  have hl := h.length
  have hi : i < ds.length := by rw [← hl]; exact (List.getElem?_eq_some_iff.mp e).1
  obtain ⟨u, e1, e2⟩ := h.get (i := i) (d := ds[i]) (by simp [hi])
  rw [e] at e1; cases e1
  exact ⟨_, by simp [hi], e2⟩
theorem FzL.append {G : Hp} : ∀ {ds es : List D} {vs us : List V}, FzL G ds vs → FzL G es us → FzL G (ds ++ es) (vs ++ us)
  | [], es, vs, us, h, k => by simp only [FzL] at h; subst h; simpa using k
  | d :: ds, es, vs, us, h, k => by
    simp only [FzL] at h
    obtain ⟨v, r, rfl, h1, h2⟩ := h
    simp only [List.cons_append, FzL]
    exact ⟨v, _, rfl, h1, FzL.append h2 k⟩
theorem FzL.cons {G : Hp} {d : D} {v : V} {ds : List D} {vs : List V} (h : Fz G d v) (k : FzL G ds vs) : FzL G (d :: ds) (v :: vs) := by
  simp only [FzL]; exact ⟨v, vs, rfl, h, k⟩
theorem FzL.nil {G : Hp} : FzL G [] [] := by simp [FzL]
theorem FzL.of {G : Hp} : ∀ {ds : List D} {vs : List V}, ds.length = vs.length → (∀ (i : Nat) (d : D) (v : V), ds[i]? = some d → vs[i]? = some v → Fz G d v) → FzL G ds vs
  | [], [], _, _ => .nil
  | d :: ds, v :: vs, hl, h => .cons (h 0 d v rfl rfl) (FzL.of (by simpa using hl) fun i d' v' e1 e2 => h (i + 1) d' v' (by simpa using e1) (by simpa using e2))

/-! ## owned data -/
def OwL (P : D → V → List Addr → Prop) : List D → List V → List Addr → Prop
  | [], vs, fp => vs = [] ∧ fp = []
  | d :: ds, vs, fp => ∃ v r f g, vs = v :: r ∧ fp = f ++ g ∧ P d v f ∧ OwL P ds r g
def Ow (G H : Hp) : Nat → D → V → List Addr → Prop
  | 0, d, v, fp => Fz G d v ∧ fp = []
  | k + 1, .lst ds, v, fp => ∃ a vs f, v = .ref a ∧ H a = some (.lst vs) ∧ fp = a :: f ∧ OwL (Ow G H k) ds vs f
  | k + 1, .dK ks ds, v, fp => ∃ a vs f, v = .ref a ∧ H a = some (.dK (ks.zip vs)) ∧ ks.length = ds.length ∧ fp = a :: f ∧ OwL (Ow G H k) ds vs f
  | k + 1, .dT ks ds, v, fp => ∃ a vs f, v = .ref a ∧ H a = some (.dT (ks.zip vs)) ∧ ks.length = ds.length ∧ fp = a :: f ∧ OwL (Ow G H k) ds vs f
  | k + 1, .obj c ns ds, v, fp => ∃ a dx vs f, v = .ref a ∧ H a = some (.ins c dx (ns.zip vs)) ∧ ns.length = ds.length ∧ fp = a :: f ∧ OwL (Ow G H k) ds vs f
  | _ + 1, d, v, fp => Fz G d v ∧ fp = []
theorem OwL.length {P : D → V → List Addr → Prop} : ∀ {ds : List D} {vs : List V} {fp : List Addr}, OwL P ds vs fp → vs.length = ds.length
  | [], vs, fp, h => by obtain ⟨rfl, _⟩ := h; rfl
  | d :: ds, vs, fp, h => by
    obtain ⟨v, r, f, g, rfl, _, _, h2⟩ := h
    simp [OwL.length h2]
theorem OwL.mono {P P' : D → V → List Addr → Prop} : ∀ {ds : List D} {vs : List V} {fp : List Addr}, OwL P ds vs fp → (∀ d v f, (∀ a ∈ f, a ∈ fp) → P d v f → P' d v f) → OwL P' ds vs fp
  | [], vs, fp, h, _ => h
  | d :: ds, vs, fp, h, m => by
    obtain ⟨v, r, f, g, rfl, rfl, h1, h2⟩ := h
    exact ⟨v, r, f, g, rfl, rfl, m d v f (fun a ha => List.mem_append_left _ ha) h1, OwL.mono h2 fun d v f hf => m d v f fun a ha => List.mem_append_right _ (hf a ha)⟩
/-- the owned thing stays where its places stay -/
theorem Ow.keep {G G' H H' : Hp} (m : Inc G G') : ∀ {k : Nat} {d : D} {v : V} {fp : List Addr}, Ow G H k d v fp → (∀ a ∈ fp, ∀ o, H a = some o → H' a = some o) → Ow G' H' k d v fp
  | 0, d, v, fp, h, _ => ⟨h.1.inc m, h.2⟩
  | k + 1, .lst ds, v, fp, h, q => by
    obtain ⟨a, vs, f, e, r, rfl, z⟩ := h
    exact ⟨a, vs, f, e, q a (by simp) _ r, rfl, z.mono fun d v g hg y => Ow.keep m y fun b hb => q b (List.mem_cons_of_mem _ (hg b hb))⟩
  | k + 1, .dK ks ds, v, fp, h, q => by
    obtain ⟨a, vs, f, e, r, l, rfl, z⟩ := h
    exact ⟨a, vs, f, e, q a (by simp) _ r, l, rfl, z.mono fun d v g hg y => Ow.keep m y fun b hb => q b (List.mem_cons_of_mem _ (hg b hb))⟩
  | k + 1, .dT ks ds, v, fp, h, q => by
    obtain ⟨a, vs, f, e, r, l, rfl, z⟩ := h
    exact ⟨a, vs, f, e, q a (by simp) _ r, l, rfl, z.mono fun d v g hg y => Ow.keep m y fun b hb => q b (List.mem_cons_of_mem _ (hg b hb))⟩
  | k + 1, .obj c ns ds, v, fp, h, q => by
    obtain ⟨a, dx, vs, f, e, r, l, rfl, z⟩ := h
    exact ⟨a, dx, vs, f, e, q a (by simp) _ r, l, rfl, z.mono fun d v g hg y => Ow.keep m y fun b hb => q b (List.mem_cons_of_mem _ (hg b hb))⟩
  | k + 1, .non, v, fp, h, _ => ⟨h.1.inc m, h.2⟩
  | k + 1, .bl b, v, fp, h, _ => ⟨h.1.inc m, h.2⟩
  | k + 1, .int b, v, fp, h, _ => ⟨h.1.inc m, h.2⟩
  | k + 1, .str b, v, fp, h, _ => ⟨h.1.inc m, h.2⟩
  | k + 1, .ty b, v, fp, h, _ => ⟨h.1.inc m, h.2⟩
  | k + 1, .tup b, v, fp, h, _ => ⟨h.1.inc m, h.2⟩
  | k + 1, .exc _ _ _ _, v, fp, h, _ => ⟨h.1.inc m, h.2⟩
  | k + 1, .kl _ _ _, v, fp, h, _ => ⟨h.1.inc m, h.2⟩
theorem OwL.dom {P : D → V → List Addr → Prop} {C : Addr → Prop} : ∀ {ds : List D} {vs : List V} {fp : List Addr}, OwL P ds vs fp → (∀ d v f, P d v f → ∀ a ∈ f, C a) → ∀ a ∈ fp, C a
  | [], vs, fp, h, _ => by obtain ⟨_, rfl⟩ := h; intro a ha; simp at ha
  | d :: ds, vs, fp, h, m => by
    obtain ⟨v, r, f, g, rfl, rfl, h1, h2⟩ := h
    intro a ha
    rcases List.mem_append.mp ha with ha | ha
    · exact m d v f h1 a ha
    · exact OwL.dom h2 m a ha
theorem Ow.dom {G H : Hp} : ∀ {k : Nat} {d : D} {v : V} {fp : List Addr}, Ow G H k d v fp → ∀ a ∈ fp, ∃ o, H a = some o
  | 0, d, v, fp, h => by obtain ⟨_, rfl⟩ := h; intro a ha; simp at ha
  | k + 1, .lst ds, v, fp, h => by
    obtain ⟨a, vs, f, e, r, rfl, z⟩ := h
    intro b hb
    rcases List.mem_cons.mp hb with rfl | hb
    · exact ⟨_, r⟩
    · exact z.dom (C := fun a => ∃ o, H a = some o) (fun d v f h => Ow.dom h) b hb
  | k + 1, .dK ks ds, v, fp, h => by
    obtain ⟨a, vs, f, e, r, _, rfl, z⟩ := h
    intro b hb
    rcases List.mem_cons.mp hb with rfl | hb
    · exact ⟨_, r⟩
    · exact z.dom (C := fun a => ∃ o, H a = some o) (fun d v f h => Ow.dom h) b hb
  | k + 1, .dT ks ds, v, fp, h => by
    obtain ⟨a, vs, f, e, r, _, rfl, z⟩ := h
    intro b hb
    rcases List.mem_cons.mp hb with rfl | hb
    · exact ⟨_, r⟩
    · exact z.dom (C := fun a => ∃ o, H a = some o) (fun d v f h => Ow.dom h) b hb
  | k + 1, .obj c ns ds, v, fp, h => by
    obtain ⟨a, dx, vs, f, e, r, _, rfl, z⟩ := h
    intro b hb
    rcases List.mem_cons.mp hb with rfl | hb
    · exact ⟨_, r⟩
    · exact z.dom (C := fun a => ∃ o, H a = some o) (fun d v f h => Ow.dom h) b hb
  | k + 1, .non, v, fp, h => by obtain ⟨_, rfl⟩ := h; intro a ha; simp at ha
  | k + 1, .bl b, v, fp, h => by obtain ⟨_, rfl⟩ := h; intro a ha; simp at ha
  | k + 1, .int b, v, fp, h => by obtain ⟨_, rfl⟩ := h; intro a ha; simp at ha
  | k + 1, .str b, v, fp, h => by obtain ⟨_, rfl⟩ := h; intro a ha; simp at ha
  | k + 1, .ty b, v, fp, h => by obtain ⟨_, rfl⟩ := h; intro a ha; simp at ha
  | k + 1, .tup b, v, fp, h => by obtain ⟨_, rfl⟩ := h; intro a ha; simp at ha
  | k + 1, .exc _ _ _ _, v, fp, h => by obtain ⟨_, rfl⟩ := h; intro a ha; simp at ha
  | k + 1, .kl _ _ _, v, fp, h => by obtain ⟨_, rfl⟩ := h; intro a ha; simp at ha
theorem OwL.fz {P : D → V → List Addr → Prop} {G : Hp} : ∀ {ds : List D} {vs : List V} {fp : List Addr}, OwL P ds vs fp → (∀ d v f, (∀ a ∈ f, a ∈ fp) → P d v f → Fz G d v) → FzL G ds vs
  | [], vs, fp, h, _ => by obtain ⟨rfl, _⟩ := h; exact .nil
  | d :: ds, vs, fp, h, m => by
    obtain ⟨v, r, f, g, rfl, rfl, h1, h2⟩ := h
    exact .cons (m d v f (fun a ha => List.mem_append_left _ ha) h1) (OwL.fz h2 fun d v f hf => m d v f fun a ha => List.mem_append_right _ (hf a ha))
/-- freezing -/
theorem Ow.fz {G G' H : Hp} (m : Inc G G') : ∀ {k : Nat} {d : D} {v : V} {fp : List Addr}, Ow G H k d v fp → (∀ a ∈ fp, ∀ o, H a = some o → G' a = some o) → Fz G' d v
  | 0, d, v, fp, h, _ => h.1.inc m
  | k + 1, .lst ds, v, fp, h, q => by
    obtain ⟨a, vs, f, e, r, rfl, z⟩ := h
    simp only [Fz]
    exact ⟨a, vs, e, q a (by simp) _ r, z.fz fun d v g hg y => Ow.fz m y fun b hb => q b (List.mem_cons_of_mem _ (hg b hb))⟩
  | k + 1, .dK ks ds, v, fp, h, q => by
    obtain ⟨a, vs, f, e, r, l, rfl, z⟩ := h
    simp only [Fz]
    exact ⟨a, vs, e, .inl (q a (by simp) _ r), l, z.fz fun d v g hg y => Ow.fz m y fun b hb => q b (List.mem_cons_of_mem _ (hg b hb))⟩
  | k + 1, .dT ks ds, v, fp, h, q => by
    obtain ⟨a, vs, f, e, r, l, rfl, z⟩ := h
    simp only [Fz]
    exact ⟨a, vs, e, .inl (q a (by simp) _ r), l, z.fz fun d v g hg y => Ow.fz m y fun b hb => q b (List.mem_cons_of_mem _ (hg b hb))⟩
  | k + 1, .obj c ns ds, v, fp, h, q => by
    obtain ⟨a, dx, vs, f, e, r, l, rfl, z⟩ := h
    simp only [Fz]
    exact ⟨a, dx, vs, e, q a (by simp) _ r, l, z.fz fun d v g hg y => Ow.fz m y fun b hb => q b (List.mem_cons_of_mem _ (hg b hb))⟩
  | k + 1, .non, v, fp, h, _ => h.1.inc m
  | k + 1, .bl b, v, fp, h, _ => h.1.inc m
  | k + 1, .int b, v, fp, h, _ => h.1.inc m
  | k + 1, .str b, v, fp, h, _ => h.1.inc m
  | k + 1, .ty b, v, fp, h, _ => h.1.inc m
  | k + 1, .tup b, v, fp, h, _ => h.1.inc m
  | k + 1, .exc _ _ _ _, v, fp, h, _ => h.1.inc m
  | k + 1, .kl _ _ _, v, fp, h, _ => h.1.inc m

/-! ## the state -/
structure SR (σ0 : St) (G H : Hp) (σ : St) (S : Sl) (F : Fps) : Prop where
  len : σ.length = S.length
  row : ∀ (i : Nat) (c : Cell), S[i]? = some c → (c.pin = true → σ[i]? = σ0[i]?) ∧ (∀ k d, c.val = some (k, d) → ∃ v, σ[i]? = some (some v) ∧ Ow G H k d v (F i)) ∧ (c.val = none → F i = [])
  out : ∀ i, S.length ≤ i → F i = []
  nd : ∀ i, (F i).Nodup
  dj : ∀ i j a, a ∈ F i → a ∈ F j → i = j
  fs : ∀ i a, a ∈ F i → G a = none
  inc : Inc G H
  tp : ∀ a us, H a = some (.tup us) → G a = some (.tup us)
structure Gr (p : Bool) (G H : Hp) (F : Fps) (S : Sl) (G' H' : Hp) (F' : Fps) (S' : Sl) : Prop where
  up : Inc G G'
  new : ∀ a, G' a ≠ none → G a ≠ none ∨ (∃ i, a ∈ F i) ∨ H a = none
  fr : ∀ a o, H a = some o → (∀ i, a ∉ F i) → H' a = some o
  src : ∀ i a, a ∈ F' i → (∃ j, a ∈ F j) ∨ H a = none
  pure : p = true → S' = S ∧ F' = F ∧ Inc H H' ∧ ∀ a, G' a ≠ none → G a ≠ none ∨ H a = none
structure VP (H : Hp) (F : Fps) (G' H' : Hp) (F' : Fps) (x : Vl) (v : V) (fp : List Addr) : Prop where
  ow : Ow G' H' x.k x.d v fp
  nd : x.b = false → fp.Nodup
  src : x.b = false → ∀ a ∈ fp, (∃ j, a ∈ F j) ∨ H a = none
  dj : x.b = false → ∀ i, ∀ a ∈ fp, a ∉ F' i
  ns : x.b = false → ∀ a ∈ fp, G' a = none
section
variable {σ0 σ : St} {G H G1 H1 G2 H2 : Hp} {F F1 F2 : Fps} {S S1 S2 : Sl} {p q : Bool}
theorem SR.dom (r : SR σ0 G H σ S F) {i : Nat} {a : Addr} (h : a ∈ F i) : ∃ o, H a = some o := by
  by_cases hi : i < S.length
  · obtain ⟨_, h2, h3⟩ := r.row i S[i] (by simp [hi])
    cases e : S[i].val with
    | none => rw [h3 e] at h; simp at h
    | some kd =>
      obtain ⟨k, d⟩ := kd
      obtain ⟨v, _, z⟩ := h2 k d e
      exact z.dom a h
  · rw [r.out i (by omega)] at h; simp at h
theorem SR.gNone (r : SR σ0 G H σ S F) {a : Addr} (h : H a = none) : G a = none := by
  cases e : G a with
  | none => rfl
  | some o => rw [r.inc a o e] at h; cases h
theorem Gr.refl (r : SR σ0 G H σ S F) : Gr p G H F S G H F S :=
  ⟨Inc.refl _, fun a h => .inl h, fun _ _ h _ => h, fun i a h => .inl ⟨i, h⟩, fun _ => ⟨rfl, rfl, Inc.refl _, fun a h => .inl h⟩⟩
theorem Gr.back (a : Gr p G H F S G1 H1 F1 S1) {x : Addr} (h : (∃ j, x ∈ F1 j) ∨ H1 x = none) : (∃ j, x ∈ F j) ∨ H x = none := by
  rcases h with ⟨j, h⟩ | h
  · exact a.src j x h
  · by_cases hx : ∃ j, x ∈ F j
    · exact .inl hx
    · cases e : H x with
      | none => exact .inr rfl
      | some o =>
        have := a.fr x o e fun i hi => hx ⟨i, hi⟩
        rw [this] at h; cases h
theorem Gr.trans (a : Gr p G H F S G1 H1 F1 S1) (b : Gr q G1 H1 F1 S1 G2 H2 F2 S2) : Gr (p && q) G H F S G2 H2 F2 S2 where
  up := a.up.trans b.up
  new := fun x h => by
    rcases b.new x h with h | h
    · exact a.new x h
    · exact .inr (a.back h)
  fr := fun x o h hf => b.fr x o (a.fr x o h hf) fun i hi => by
    rcases a.src i x hi with ⟨j, hj⟩ | hn
    · exact hf j hj
    · rw [h] at hn; cases hn
  src := fun i x h => a.back (b.src i x h)
  pure := fun h => by
    obtain ⟨hp, hq⟩ := Bool.and_eq_true_iff.mp h
    obtain ⟨a1, a2, a3, a4⟩ := a.pure hp
    obtain ⟨b1, b2, b3, b4⟩ := b.pure hq
    refine ⟨b1.trans a1, b2.trans a2, a3.trans b3, fun x hx => ?_⟩
    rcases b4 x hx with h | h
    · exact a4 x h
    · right
      cases e : H x with
      | none => rfl
      | some o => rw [a3 x o e] at h; cases h
theorem Gr.weak (a : Gr p G H F S G1 H1 F1 S1) (h : q = true → p = true) : Gr q G H F S G1 H1 F1 S1 := ⟨a.up, a.new, a.fr, a.src, fun z => a.pure (h z)⟩
theorem Gr.off (a : Gr p G H F S G1 H1 F1 S1) : Gr false G H F S G1 H1 F1 S1 := a.weak fun h => nomatch h
/-- what stands outside is not touched -/
theorem Gr.keepG (a : Gr p G H F S G1 H1 F1 S1) {x : Addr} {o : HO} (h : H x = some o) (hf : ∀ i, x ∉ F i) (hg : G x = none) : G1 x = none := by
  cases e : G1 x with
  | none => rfl
  | some u =>
    rcases a.new x (by rw [e]; intro z; cases z) with z | ⟨i, z⟩ | z
    · exact absurd hg z
    · exact absurd z (hf i)
    · rw [h] at z; cases z
theorem VP.carry {x : Vl} {v : V} {fp : List Addr} (z : VP H F G1 H1 F1 x v fp) (a : Gr p G1 H1 F1 S1 G2 H2 F2 S2) (h : x.b = false ∨ p = true) : VP H F G2 H2 F2 x v fp := by
  have agree : ∀ a ∈ fp, ∀ o, H1 a = some o → H2 a = some o := fun b hb o ho => by
    rcases h with h | h
    · exact a.fr b o ho fun i => z.dj h i b hb
    · exact (a.pure h).2.2.1 b o ho
  refine ⟨z.ow.keep a.up agree, z.nd, z.src, fun hb i b hbf hi => ?_, fun hb b hbf => ?_⟩
  · obtain ⟨o, ho⟩ := z.ow.dom b hbf
    rcases a.src i b hi with ⟨j, hj⟩ | hn
    · exact z.dj hb j b hbf hj
    · rw [ho] at hn; cases hn
  · obtain ⟨o, ho⟩ := z.ow.dom b hbf
    exact a.keepG ho (fun i => z.dj hb i b hbf) (z.ns hb b hbf)
/-- seen from an earlier point -/
theorem VP.from {x : Vl} {v : V} {fp : List Addr} (a : Gr p G H F S G1 H1 F1 S1) (z : VP H1 F1 G2 H2 F2 x v fp) : VP H F G2 H2 F2 x v fp :=
  ⟨z.ow, z.nd, fun hb b h => a.back (z.src hb b h), z.dj, z.ns⟩
/-- an earlier value and a later one are apart -/
theorem VP.apart {x y : Vl} {v u : V} {fp fq : List Addr} {G3 H3 : Hp} {F3 : Fps} (z : VP H F G1 H1 F1 x v fp) (w : VP H1 F1 G2 H2 F2 y u fq) (hx : x.b = false) (hy : y.b = false) : ∀ a ∈ fp, a ∉ fq := fun a ha hq => by
  obtain ⟨o, ho⟩ := z.ow.dom a ha
  rcases w.src hy a hq with ⟨j, hj⟩ | hn
  · exact z.dj hx j a ha hj
  · rw [ho] at hn; cases hn
theorem VP.fzn {d : D} {v : V} (h : Fz G1 d v) : VP H F G1 H1 F1 (.fzn d) v [] := ⟨⟨h, rfl⟩, fun _ => .nil, fun _ a h => by simp at h, fun _ _ a h => by simp at h, fun _ a h => by simp at h⟩
theorem VP.isFz {d : D} {v : V} {fp : List Addr} (z : VP H F G1 H1 F1 (.fzn d) v fp) : Fz G1 d v := z.ow.1
open Classical in
/-- a part of the heap is frozen -/
noncomputable def frzd (G H : Hp) (fp : List Addr) : Hp := fun a => if a ∈ fp then H a else G a
theorem frzd_inc {fp : List Addr} (h : ∀ a ∈ fp, G a = none) : Inc G (frzd G H fp) := fun a o e => by
  unfold frzd
  by_cases ha : a ∈ fp
  · rw [h a ha] at e; cases e
  · rw [if_neg ha]; exact e
theorem frzd_at {fp : List Addr} {a : Addr} (h : a ∈ fp) : frzd G H fp a = H a := if_pos h
theorem frzd_ne {fp : List Addr} {a : Addr} (h : a ∉ fp) : frzd G H fp a = G a := if_neg h
theorem frzd_tup {fp : List Addr} (h : ∀ a us, H a = some (.tup us) → G a = some (.tup us)) : ∀ a us, H a = some (.tup us) → frzd G H fp a = some (.tup us) := fun b us e => by
  by_cases hf : b ∈ fp
  · rw [frzd_at hf]; exact e
  · rw [frzd_ne hf]; exact h b us e
/-- the state where a value in flight has been frozen -/
theorem VP.freeze {x : Vl} {v : V} {fp : List Addr} (r : SR σ0 G1 H1 σ S1 F1) (a : Gr p G H F S G1 H1 F1 S1) (z : VP H F G1 H1 F1 x v fp) (hb : x.b = false) :
    ∃ G2, SR σ0 G2 H1 σ S1 F1 ∧ Gr p G H F S G2 H1 F1 S1 ∧ Fz G2 x.d v := by
  have hi : Inc G1 (frzd G1 H1 fp) := frzd_inc (z.ns hb)
  refine ⟨frzd G1 H1 fp, ⟨r.len, fun i c hc => ?_, r.out, r.nd, r.dj, fun i b hib => ?_, fun b o e => ?_, frzd_tup r.tp⟩, ⟨a.up.trans hi, fun b hb' => ?_, a.fr, a.src, fun hp => ?_⟩, z.ow.fz hi fun b hb' o ho => by rw [frzd_at hb']; exact ho⟩
  · obtain ⟨h1, h2, h3⟩ := r.row i c hc
    refine ⟨h1, fun k d e => ?_, h3⟩
    obtain ⟨u, e1, e2⟩ := h2 k d e
    exact ⟨u, e1, e2.keep hi fun _ _ _ h => h⟩
  · rw [frzd_ne fun hf => z.dj hb i b hf hib]
    exact r.fs i b hib
  · by_cases hf : b ∈ fp
    · rw [frzd_at hf] at e; exact e
    · rw [frzd_ne hf] at e; exact r.inc b o e
  · by_cases hf : b ∈ fp
    · exact .inr (z.src hb b hf)
    · rw [frzd_ne hf] at hb'; exact a.new b hb'
  · obtain ⟨p1, p2, p3, p4⟩ := a.pure hp
    refine ⟨p1, p2, p3, fun b hb' => ?_⟩
    by_cases hf : b ∈ fp
    · rcases z.src hb b hf with ⟨j, hj⟩ | hn
      · exact absurd (p2 ▸ hj : b ∈ F1 j) (z.dj hb j b hf)
      · exact .inr hn
    · rw [frzd_ne hf] at hb'; exact p4 b hb'
end
end VL

set_option Elab.async false
set_option linter.all false
set_option autoImplicit false
set_option maxRecDepth 100000
namespace VL
open PySem PySem.Spec L2
open PyProof.Rows hiding St

/-! ## judgements -/
/-- what an error carries -/
def ER (G H : Hp) (w : Option (Str × D)) (dd : Option Addr) : Prop := match w with
  | none => True
  | some (n, d) => ∃ a fs v, dd = some a ∧ G a = some (.xd fs) ∧ fs.lookup n = some v ∧ Fz G d v
section
variable (p : Bool) (σ0 σ : St) (G H : Hp) (S : Sl) (F : Fps)
def OkV (Q : VK) (x : Vl) (S' : Sl) : Prop := ∀ v fp G' H' F', SR σ0 G' H' σ S' F' → Gr p G H F S G' H' F' S' → VP H F G' H' F' x v fp → Q v H'
def OkD (Q : VK) (d : D) (S' : Sl) : Prop := ∀ v G' H' F', SR σ0 G' H' σ S' F' → Gr p G H F S G' H' F' S' → Fz G' d v → Q v H'
def OkB (Q : Bool → Hp → Prop) (b : Bool) (S' : Sl) : Prop := ∀ G' H' F', SR σ0 G' H' σ S' F' → Gr p G H F S G' H' F' S' → Q b H'
def OkA (Q : List V → Hp → Prop) (ds : List D) (S' : Sl) : Prop := ∀ vs G' H' F', SR σ0 G' H' σ S' F' → Gr p G H F S G' H' F' S' → FzL G' ds vs → Q vs H'
def OkE (W : WX) (c : Addr) (w : Option (Str × D)) (S' : Sl) : Prop := ∀ dd G' H' F', SR σ0 G' H' σ S' F' → Gr false G H F S G' H' F' S' → ER G' H' w dd → W (.ref c) dd σ H'
end
section
variable (p : Bool) (X : Cx) (W : WX)
def VE (e : Expr) (g : Sl → R Vl) : Prop := ∃ t, PE X e t ∧ ∀ σ0 σ G H S F Q, SR σ0 G H σ S F → (g S).wp (OkV p σ0 σ G H S F Q) (OkE σ0 σ G H S F W) → t σ H Q
def VD (e : Expr) (g : Sl → R D) : Prop := ∃ t, PE X e t ∧ ∀ σ0 σ G H S F Q, SR σ0 G H σ S F → (g S).wp (OkD p σ0 σ G H S F Q) (OkE σ0 σ G H S F W) → t σ H Q
def VT (e : Expr) (g : Sl → R Bool) : Prop := ∃ t, PT X e t ∧ ∀ σ0 σ G H S F Q, SR σ0 G H σ S F → (g S).wp (OkB p σ0 σ G H S F Q) (OkE σ0 σ G H S F W) → t σ H Q
def VA (es : List Expr) (g : Sl → R (List D)) : Prop := ∃ t, PA X es t ∧ ∀ σ0 σ G H S F Q, SR σ0 G H σ S F → (g S).wp (OkA p σ0 σ G H S F Q) (OkE σ0 σ G H S F W) → t σ H Q
end

section
variable {X : Cx} {W : WX} {p q : Bool} {e ea eb : Expr}
variable {σ0 σ : St} {G H G1 H1 G2 H2 : Hp} {F F1 F2 : Fps} {S S1 S2 : Sl}
/-- errors seen from an earlier point -/
theorem OkE.from (a : Gr p G H F S G1 H1 F1 S1) {c : Addr} {w : Option (Str × D)} {S' : Sl} (h : OkE σ0 σ G H S F W c w S') : OkE σ0 σ G1 H1 S1 F1 W c w S' :=
  fun dd G' H' F' r g er => h dd G' H' F' r (a.off.trans g) er
def gD (g : Sl → R Vl) : Sl → R D := fun S => (g S).bind fun x S' => if x.b then .stuck else .ok x.d S'
def gV (g : Sl → R D) : Sl → R Vl := fun S => (g S).bind fun d S' => .ok (.fzn d) S'
theorem VE.d {g : Sl → R Vl} (h : VE p X W e g) : VD p X W e (gD g) := by
  obtain ⟨t, h1, h2⟩ := h
  refine ⟨t, h1, fun σ0 σ G H S F Q r hw => h2 σ0 σ G H S F Q r (R.wp_mono (R.wp_bind hw) (fun x S' hx v fp G' H' F' r' g' z => ?_) fun c w S' h => h)⟩
  cases hb : x.b with
  | true => rw [hb] at hx; exact hx.elim
  | false =>
    rw [hb] at hx
    obtain ⟨G2, r2, g2, z2⟩ := z.freeze r' g' hb
    exact hx v G2 H' F' r2 g2 z2
theorem VD.v {g : Sl → R D} (h : VD p X W e g) : VE p X W e (gV g) := by
  obtain ⟨t, h1, h2⟩ := h
  exact ⟨t, h1, fun σ0 σ G H S F Q r hw => h2 σ0 σ G H S F Q r (R.wp_mono (R.wp_bind hw) (fun d S' hx v G' H' F' r' g' z => hx v [] G' H' F' r' g' (.fzn z)) fun c w S' h => h)⟩
theorem VE.weak {g : Sl → R Vl} (h : VE p X W e g) (hq : q = true → p = true) : VE q X W e g := by
  obtain ⟨t, h1, h2⟩ := h
  exact ⟨t, h1, fun σ0 σ G H S F Q r hw => h2 σ0 σ G H S F Q r (R.wp_mono hw (fun x S' hx v fp G' H' F' r' g' z => hx v fp G' H' F' r' (g'.weak hq) z) fun c w S' h => h)⟩
theorem VD.weak {g : Sl → R D} (h : VD p X W e g) (hq : q = true → p = true) : VD q X W e g := by
  obtain ⟨t, h1, h2⟩ := h
  exact ⟨t, h1, fun σ0 σ G H S F Q r hw => h2 σ0 σ G H S F Q r (R.wp_mono hw (fun x S' hx v G' H' F' r' g' z => hx v G' H' F' r' (g'.weak hq) z) fun c w S' h => h)⟩
/-- the semantics may be exchanged -/
theorem VD.cong {g g' : Sl → R D} (h : VD p X W e g) (hg : ∀ S, g' S = g S) : VD p X W e g' := by
  have : g' = g := funext hg
  rw [this]; exact h

/-! ### in a row -/
theorem VD.then {g : Sl → R D} {t : TE} {β : Type} {f : D → Sl → R β} {ok : β → Sl → Prop} {Q : VK} (h2 : ∀ σ0 σ G H S F Q, SR σ0 G H σ S F → (g S).wp (OkD p σ0 σ G H S F Q) (OkE σ0 σ G H S F W) → t σ H Q)
    (r : SR σ0 G H σ S F) (hw : ((g S).bind f).wp ok (OkE σ0 σ G H S F W))
    (k : ∀ d S' v G' H' F', SR σ0 G' H' σ S' F' → Gr p G H F S G' H' F' S' → Fz G' d v → (f d S').wp ok (OkE σ0 σ G' H' S' F' W) → Q v H') : t σ H Q :=
  h2 σ0 σ G H S F Q r (R.wp_mono (R.wp_bind hw) (fun d S' hx v G' H' F' r' g' z => k d S' v G' H' F' r' g' z (R.wp_mono hx (fun _ _ h => h) fun c w S' h => h.from g')) fun c w S' h => h)
theorem VE.then {g : Sl → R Vl} {t : TE} {β : Type} {f : Vl → Sl → R β} {ok : β → Sl → Prop} {Q : VK} (h2 : ∀ σ0 σ G H S F Q, SR σ0 G H σ S F → (g S).wp (OkV p σ0 σ G H S F Q) (OkE σ0 σ G H S F W) → t σ H Q)
    (r : SR σ0 G H σ S F) (hw : ((g S).bind f).wp ok (OkE σ0 σ G H S F W))
    (k : ∀ x S' v fp G' H' F', SR σ0 G' H' σ S' F' → Gr p G H F S G' H' F' S' → VP H F G' H' F' x v fp → (f x S').wp ok (OkE σ0 σ G' H' S' F' W) → Q v H') : t σ H Q :=
  h2 σ0 σ G H S F Q r (R.wp_mono (R.wp_bind hw) (fun d S' hx v fp G' H' F' r' g' z => k d S' v fp G' H' F' r' g' z (R.wp_mono hx (fun _ _ h => h) fun c w S' h => h.from g')) fun c w S' h => h)
theorem VA.then {g : Sl → R (List D)} {t : TA} {β : Type} {f : List D → Sl → R β} {ok : β → Sl → Prop} {Q : List V → Hp → Prop} (h2 : ∀ σ0 σ G H S F Q, SR σ0 G H σ S F → (g S).wp (OkA p σ0 σ G H S F Q) (OkE σ0 σ G H S F W) → t σ H Q)
    (r : SR σ0 G H σ S F) (hw : ((g S).bind f).wp ok (OkE σ0 σ G H S F W))
    (k : ∀ ds S' vs G' H' F', SR σ0 G' H' σ S' F' → Gr p G H F S G' H' F' S' → FzL G' ds vs → (f ds S').wp ok (OkE σ0 σ G' H' S' F' W) → Q vs H') : t σ H Q :=
  h2 σ0 σ G H S F Q r (R.wp_mono (R.wp_bind hw) (fun d S' hx v G' H' F' r' g' z => k d S' v G' H' F' r' g' z (R.wp_mono hx (fun _ _ h => h) fun c w S' h => h.from g')) fun c w S' h => h)
theorem VT.then {g : Sl → R Bool} {t : TT} {β : Type} {f : Bool → Sl → R β} {ok : β → Sl → Prop} {Q : Bool → Hp → Prop} (h2 : ∀ σ0 σ G H S F Q, SR σ0 G H σ S F → (g S).wp (OkB p σ0 σ G H S F Q) (OkE σ0 σ G H S F W) → t σ H Q)
    (r : SR σ0 G H σ S F) (hw : ((g S).bind f).wp ok (OkE σ0 σ G H S F W))
    (k : ∀ b S' G' H' F', SR σ0 G' H' σ S' F' → Gr p G H F S G' H' F' S' → (f b S').wp ok (OkE σ0 σ G' H' S' F' W) → Q b H') : t σ H Q :=
  h2 σ0 σ G H S F Q r (R.wp_mono (R.wp_bind hw) (fun d S' hx G' H' F' r' g' => k d S' G' H' F' r' g' (R.wp_mono hx (fun _ _ h => h) fun c w S' h => h.from g')) fun c w S' h => h)

/-! ### names and constants -/
def D.atom : D → Bool
  | .non | .bl _ | .int _ | .str _ | .ty _ | .tup _ => true
  | _ => false
theorem Ow.atom {G H : Hp} {k : Nat} {d : D} {v : V} {fp : List Addr} (h : Ow G H k d v fp) (a : d.atom = true) : Fz G d v ∧ fp = [] := by
  cases k with
  | zero => exact h
  | succ k => cases d <;> first | exact h | cases a
/-- a name whose value is frozen -/
def gVar (i : Nat) : Sl → R D := fun S => match S[i]? with
  | some ⟨_, some (0, d)⟩ => .ok d S
  | some ⟨_, some (_ + 1, d)⟩ => if d.atom then .ok d S else .stuck
  | _ => .stuck
theorem vd_var (i : Nat) {x : Str} {pos : Pos} (hN : X.N[i]? = some x := by rfl) (hv : Vis X.env.scope x := by first | exact Or.inl rfl | exact Or.inr (Or.inl rfl) | exact Or.inr (Or.inr rfl)) (hd : (x == ("__debug__" : Str)) = false := by decide)
    (hcd : (x == ("__classdict__" : Str)) = false := by decide) : VD true X W (.Name x pos) (gVar i) := by
  refine ⟨_, pe_var hN hv hd hcd, fun σ0 σ G H S F Q r hw => ?_⟩
  unfold gVar at hw
  cases hc : S[i]? with
  | none => rw [hc] at hw; exact hw.elim
  | some c =>
    obtain ⟨pin, val⟩ := c
    obtain ⟨_, h2, _⟩ := r.row i _ hc
    rw [hc] at hw
    cases val with
    | none => exact hw.elim
    | some kd =>
      obtain ⟨k, d⟩ := kd
      obtain ⟨v, e1, e2⟩ := h2 k d rfl
      refine ⟨v, e1, ?_⟩
      cases k with
      | zero => exact hw v G H F r (.refl r) e2.1
      | succ k =>
        simp only at hw
        split at hw
        · rename_i ha
          exact hw v G H F r (.refl r) (e2.atom ha).1
        · exact hw.elim
def gC (d : D) : Sl → R D := fun S => .ok d S
theorem vd_c {d : D} {v : V} (h : PE X e (tC v)) (hf : ∀ G, Fz G d v) : VD true X W e (gC d) :=
  ⟨_, h, fun σ0 σ G H S F Q r hw => hw v G H F r (.refl r) (hf G)⟩
theorem vd_int {i : Int} {j pos} : VD true X W (.Constant (.int i) j pos) (gC (.int i)) := vd_c pe_int fun _ => rfl
theorem vd_bl {i : Bool} {j pos} : VD true X W (.Constant (.bool i) j pos) (gC (.bl i)) := vd_c pe_bl fun _ => rfl
theorem vd_non {j pos} : VD true X W (.Constant .none j pos) (gC .non) := vd_c pe_non fun _ => rfl
theorem vd_str {i : Str} {j pos} : VD true X W (.Constant (.str i) j pos) (gC (.str i)) := vd_c pe_str fun _ => rfl

/-! ### operators -/
def gOp (h : D → D → Option D) (ga gb : Sl → R D) : Sl → R D := fun S => (ga S).bind fun x S1 => (gb S1).bind fun y S2 => match h x y with | some d => .ok d S2 | none => .stuck
def OpD (r : R2) (h : D → D → Option D) : Prop := ∀ x y d, h x y = some d → ∀ G H v u Q, Fz G x v → Fz G y u → Inc G H → (∀ w, Fz G d w → Q w H) → r v u H Q
theorem op_two {ta tb : TE} {r2 : R2} {h : D → D → Option D} (hr : OpD r2 h) {ga gb : Sl → R D} {Q : VK}
    (ha : ∀ σ0 σ G H S F Q, SR σ0 G H σ S F → (ga S).wp (OkD p σ0 σ G H S F Q) (OkE σ0 σ G H S F W) → ta σ H Q)
    (hb : ∀ σ0 σ G H S F Q, SR σ0 G H σ S F → (gb S).wp (OkD q σ0 σ G H S F Q) (OkE σ0 σ G H S F W) → tb σ H Q)
    (r : SR σ0 G H σ S F) (hw : (gOp h ga gb S).wp (OkD (p && q) σ0 σ G H S F Q) (OkE σ0 σ G H S F W)) : tOp r2 ta tb σ H Q := by
  refine VD.then (t := ta) ha r hw fun x S1 v G1 H1 F1 r1 g1 z1 hw1 => ?_
  refine VD.then (t := tb) hb r1 hw1 fun y S2 u G2 H2 F2 r2 g2 z2 hw2 => ?_
  cases hd : h x y with
  | none => rw [hd] at hw2; exact hw2.elim
  | some d =>
    rw [hd] at hw2
    exact hr x y d hd G2 H2 v u _ (z1.inc g2.up) z2 r2.inc fun w z => hw2 w G2 H2 F2 r2 (g1.trans g2) z
theorem vd_op {op : Operator} {r2 : R2} {pos : Pos} {h : D → D → Option D} {ga gb : Sl → R D} (ho : OpR X (binaryOp op) r2) (hr : OpD r2 h) (a : VD p X W ea ga) (b : VD q X W eb gb) : VD (p && q) X W (.BinOp ea op eb pos) (gOp h ga gb) := by
  obtain ⟨ta, a1, a2⟩ := a
  obtain ⟨tb, b1, b2⟩ := b
  exact ⟨_, pe_op ho a1 b1, fun σ0 σ G H S F Q r hw => op_two hr a2 b2 r hw⟩
theorem vd_cmp {op : CmpOp} {r2 : R2} {pos : Pos} {h : D → D → Option D} {ga gb : Sl → R D} (ho : OpR X (compareOp op) r2) (hr : OpD r2 h) (hm : behindInMarks op eb = false) (a : VD p X W ea ga) (b : VD q X W eb gb) :
    VD (p && q) X W (.Compare ea [op] [eb] pos) (gOp h ga gb) := by
  obtain ⟨ta, a1, a2⟩ := a
  obtain ⟨tb, b1, b2⟩ := b
  exact ⟨_, pe_cmpR ho a1 b1 hm, fun σ0 σ G H S F Q r hw => op_two hr a2 b2 r hw⟩
/-- the bool that a test wants -/
def gBool (g : Sl → R D) : Sl → R Bool := fun S => (g S).bind fun d S' => match d with | .bl b => .ok b S' | _ => .stuck
theorem vt_cmp {op : CmpOp} {r2 : R2} {pos : Pos} {h : D → D → Option D} {ga gb : Sl → R D} (ho : OpR X (compareOp op) r2) (hr : OpD r2 h) (hm : behindInMarks op eb = false) (a : VD p X W ea ga) (b : VD q X W eb gb) :
    VT (p && q) X W (.Compare ea [op] [eb] pos) (gBool (gOp h ga gb)) := by
  obtain ⟨ta, a1, a2⟩ := a
  obtain ⟨tb, b1, b2⟩ := b
  refine ⟨_, pt_cmpR ho a1 b1 hm, fun σ0 σ G H S F Q r hw => op_two (Q := fun x H' => ∃ k, x = .bl k ∧ Q k H') hr a2 b2 r ?_⟩
  refine R.wp_mono (R.wp_bind hw) (fun d S' hd v G' H' F' r' g' z => ?_) fun _ _ _ h => h
  cases d <;> first | exact hd.elim | skip
  exact ⟨_, z, hd G' H' F' r' g'⟩
/-- an expression that gives a bool, as a test -/
theorem vt_val {g : Sl → R D} (h : VD p X W e g) (ht : ∀ t, PE X e t → PT X e (tTest t)) : VT p X W e (gBool g) := by
  obtain ⟨t, h1, h2⟩ := h
  refine ⟨_, ht t h1, fun σ0 σ G H S F Q r hw => ?_⟩
  refine h2 σ0 σ G H S F _ r (R.wp_mono (R.wp_bind hw) (fun d S' hd v G' H' F' r' g' z => ?_) fun _ _ _ h => h)
  cases d <;> first | exact hd.elim | skip
  exact ⟨_, z, hd G' H' F' r' g'⟩
end

/-! ### int operators -/
def hI (C : Int → Int → Bool) (f : Int → Int → Int) : D → D → Option D
  | .int i, .int j => if C i j then some (.int (f i j)) else none
  | _, _ => none
def hB (f : Int → Int → Bool) : D → D → Option D
  | .int i, .int j => some (.bl (f i j))
  | _, _ => none
theorem opd_I {C : Int → Int → Bool} {C' : Int → Int → Prop} {f : Int → Int → Int} (hC : ∀ i j, C i j = true → C' i j) : OpD (rI C' fun i j => .int (f i j)) (hI C f) := by
  intro x y d hd G H v u Q zx zy _ k
  cases x <;> cases y <;> first | (simp [hI] at hd; done) | skip
  rename_i i j
  simp only [hI] at hd
  split at hd
  · rename_i hc
    cases hd
    simp only [Fz] at zx zy
    exact ⟨i, j, zx, zy, hC _ _ hc, k _ rfl⟩
  · cases hd
theorem opd_I0 {f : Int → Int → Int} : OpD (rI0 fun i j => .int (f i j)) (hI (fun _ _ => true) f) := by
  intro x y d hd G H v u Q zx zy _ k
  cases x <;> cases y <;> first | (simp [hI] at hd; done) | skip
  rename_i i j
  simp only [hI, if_pos] at hd
  cases hd
  simp only [Fz] at zx zy
  exact ⟨i, j, zx, zy, k _ rfl⟩
theorem opd_B {f : Int → Int → Bool} : OpD (rI0 fun i j => .bl (f i j)) (hB f) := by
  intro x y d hd G H v u Q zx zy _ k
  cases x <;> cases y <;> first | (simp [hB] at hd; done) | skip
  rename_i i j
  cases hd
  simp only [Fz] at zx zy
  exact ⟨i, j, zx, zy, k _ rfl⟩
abbrev dAdd := hI (fun _ _ => true) (fun i j => i + j)
abbrev dSub := hI (fun _ _ => true) (fun i j => i - j)
def cMul (i j : Int) : Bool := decide ((-(2 ^ 64) < i ∧ i < 2 ^ 64) ∨ (-(2 ^ 64) < j ∧ j < 2 ^ 64))
abbrev dMul := hI cMul (fun i j => i * j)
abbrev dMod := hI (fun _ j => decide (0 < j)) (fun i j => i % j)
abbrev dDiv := hI (fun _ j => decide (0 < j ∧ j < 1073741824)) (fun i j => i / j)
abbrev dLt := hB fun i j => decide (i < j)
abbrev dLe := hB fun i j => decide (i ≤ j)
abbrev dGt := hB fun i j => decide (j < i)
abbrev dGe := hB fun i j => decide (j ≤ i)
end VL

set_option Elab.async false
set_option linter.all false
set_option autoImplicit false
set_option maxRecDepth 100000
namespace VL
open PySem PySem.Spec L2
open PyProof.Rows hiding St

section
variable {X : Cx} {W : WX} {p q : Bool} {e ea eb : Expr} {es : List Expr} {pos : Pos}
variable {σ0 σ : St} {G H G1 H1 G2 H2 : Hp} {F F1 F2 : Fps} {S S1 S2 : Sl}

/-! ### a new object -/
theorem inc_new {a : Addr} {o : HO} (h : H a = none) : Inc H (upd H a o) := fun b u e => by
  rw [upd_ne (ne_of_none e h)]; exact e
theorem SR.new {a : Addr} {o : HO} (r : SR σ0 G H σ S F) (h : H a = none) (ho : ∀ us, o ≠ .tup us := by intro _ z; cases z) : SR σ0 G (upd H a o) σ S F :=
  ⟨r.len, fun i c hc => by
    obtain ⟨h1, h2, h3⟩ := r.row i c hc
    refine ⟨h1, fun k d e => ?_, h3⟩
    obtain ⟨v, e1, e2⟩ := h2 k d e
    exact ⟨v, e1, e2.keep (Inc.refl _) fun b hb o' ho => inc_new h b o' ho⟩, r.out, r.nd, r.dj, r.fs, r.inc.trans (inc_new h), fun b us e => by
    by_cases hb : b = a
    · subst hb; rw [upd_same] at e; exact absurd (Option.some.inj e) (ho us)
    · rw [upd_ne hb] at e; exact r.tp b us e⟩
theorem Gr.new' {a : Addr} {o : HO} (r : SR σ0 G H σ S F) (h : H a = none) : Gr p G H F S G (upd H a o) F S :=
  ⟨Inc.refl _, fun b hb => .inl hb, fun b u e _ => inc_new h b u e, fun i b hb => .inl ⟨i, hb⟩, fun _ => ⟨rfl, rfl, inc_new h, fun b hb => .inl hb⟩⟩
/-- a new object that is frozen at once -/
theorem SR.newG {a : Addr} {o : HO} (r : SR σ0 G H σ S F) (h : H a = none) : SR σ0 (upd G a o) (upd H a o) σ S F := by
  have i1 : Inc G (upd G a o) := inc_new (r.gNone h)
  have notF : ∀ i, a ∉ F i := fun i hi => by
    obtain ⟨o, ho⟩ := r.dom hi
    rw [h] at ho; cases ho
  refine ⟨r.len, fun i c hc => ?_, r.out, r.nd, r.dj, fun i b hb => ?_, fun b u e => ?_, fun b us e => ?_⟩
  · obtain ⟨h1, h2, h3⟩ := r.row i c hc
    refine ⟨h1, fun k d e => ?_, h3⟩
    obtain ⟨v, e1, e2⟩ := h2 k d e
    exact ⟨v, e1, e2.keep i1 fun b hb o' ho => inc_new h b o' ho⟩
  · rw [upd_ne (fun e : b = a => notF i (by rw [← e]; exact hb))]
    exact r.fs i b hb
  · by_cases hba : b = a
    · subst hba; rw [upd_same] at e; cases e; exact upd_same
    · rw [upd_ne hba] at e
      rw [upd_ne hba]
      exact r.inc b u e
  · by_cases hba : b = a
    · subst hba; rw [upd_same] at e; cases e; exact upd_same
    · rw [upd_ne hba] at e
      rw [upd_ne hba]
      exact r.tp b us e
theorem Gr.newG {a : Addr} {o : HO} (r1 : SR σ0 G1 H1 σ S1 F1) (g1 : Gr p G H F S G1 H1 F1 S1) (ha : H1 a = none) : Gr p G H F S (upd G1 a o) (upd H1 a o) F1 S1 := by
  have i1 : Inc G1 (upd G1 a o) := inc_new (r1.gNone ha)
  have g2 : Gr p G H F S G1 (upd H1 a o) F1 S1 := (g1.trans (Gr.new' (p := true) r1 ha)).weak fun h => by simpa using h
  have back : H a = none ∨ ∃ j, a ∈ F j := (g1.back (.inr ha)).symm
  refine ⟨g2.up.trans i1, fun b hb => ?_, g2.fr, g2.src, fun hp => ?_⟩
  · by_cases hba : b = a
    · subst hba; exact .inr (back.symm)
    · rw [upd_ne hba] at hb; exact g2.new b hb
  · obtain ⟨p1, p2, p3, p4⟩ := g1.pure hp
    refine ⟨p1, p2, p3.trans (inc_new ha), fun b hb => ?_⟩
    by_cases hba : b = a
    · subst hba
      right
      cases e : H b with
      | none => rfl
      | some u => rw [p3 b u e] at ha; cases ha
    · rw [upd_ne hba] at hb; exact p4 b hb
theorem SR.notF {a : Addr} (r : SR σ0 G H σ S F) (h : H a = none) (i : Nat) : a ∉ F i := fun hi => by
  obtain ⟨o, ho⟩ := r.dom hi
  rw [h] at ho; cases ho
theorem VP.one {a : Addr} {o : HO} {k : Nat} {d : D} (r : SR σ0 G H σ S F) (h : H a = none) (hO : Ow G (upd H a o) k d (.ref a) [a]) : VP H F G (upd H a o) F ⟨false, k, d⟩ (.ref a) [a] :=
  ⟨hO, fun _ => by simp, fun _ b hb => by
    have e : b = a := by simpa using hb
    subst e; exact .inr h, fun _ i b hb => by
    have e : b = a := by simpa using hb
    subst e; exact r.notF h i, fun _ b hb => by
    have e : b = a := by simpa using hb
    subst e; exact r.gNone h⟩
theorem owL_fz {ds : List D} {vs : List V} (h : FzL G ds vs) : OwL (Ow G H 0) ds vs [] := by
  induction ds generalizing vs with
  | nil => simp only [FzL] at h; subst h; exact ⟨rfl, rfl⟩
  | cons d ds ih =>
    simp only [FzL] at h
    obtain ⟨v, r, rfl, h1, h2⟩ := h
    exact ⟨v, r, [], [], rfl, rfl, ⟨h1, rfl⟩, ih h2⟩
/-- what a rule that makes a new list of frozen items brings -/
theorem new_lst {ds : List D} {vs : List V} {Q : VK} {S' : Sl} (r1 : SR σ0 G1 H1 σ S1 F1) (g1 : Gr p G H F S G1 H1 F1 S1) (z : FzL G1 ds vs) (hq : OkV p σ0 σ G H S F Q ⟨false, 1, .lst ds⟩ S1) : ∀ a, H1 a = none → Q (.ref a) (upd H1 a (.lst vs)) := fun a ha =>
  hq (.ref a) [a] G1 _ F1 (r1.new ha) ((g1.trans (Gr.new' (p := true) r1 ha)).weak fun h => by simpa using h) (VP.from g1 (VP.one r1 ha ⟨a, vs, [], rfl, upd_same, rfl, owL_fz z⟩))
/-- .. a new tuple -/
theorem new_tup {ds : List D} {vs : List V} {Q : VK} {S' : Sl} (r1 : SR σ0 G1 H1 σ S1 F1) (g1 : Gr p G H F S G1 H1 F1 S1) (z : FzL G1 ds vs) (hq : OkD p σ0 σ G H S F Q (.tup ds) S1) : ∀ a, H1 a = none → Q (.ref a) (upd H1 a (.tup vs)) := fun a ha =>
  hq (.ref a) (upd G1 a (.tup vs)) _ F1 (r1.newG ha) (g1.newG r1 ha) ⟨a, vs, rfl, upd_same, z.inc (inc_new (r1.gNone ha))⟩

/-! ### argument lists, displays -/
def gNil : Sl → R (List D) := fun S => .ok [] S
def gCons (g : Sl → R D) (r : Sl → R (List D)) : Sl → R (List D) := fun S => (g S).bind fun d S1 => (r S1).bind fun ds S2 => .ok (d :: ds) S2
theorem va_nil : VA true X W [] gNil := ⟨_, pa_nil, fun σ0 σ G H S F Q r hw => hw [] G H F r (.refl r) .nil⟩
theorem va_cons {g : Sl → R D} {gr : Sl → R (List D)} (h : VD p X W e g) (hr : VA q X W es gr) (hs : starEach (e :: es) X.env = (false, eval e X.env) :: starEach es X.env := by rfl) : VA (p && q) X W (e :: es) (gCons g gr) := by
  obtain ⟨t, a1, a2⟩ := h
  obtain ⟨u, b1, b2⟩ := hr
  refine ⟨_, pa_cons a1 b1 hs, fun σ0 σ G H S F Q r hw => ?_⟩
  refine VD.then (t := t) a2 r hw fun x S1 v G1 H1 F1 r1 g1 z1 hw1 => ?_
  refine VA.then (t := u) b2 r1 hw1 fun ds S2 vs G2 H2 F2 r2 g2 z2 hw2 => ?_
  exact hw2 (v :: vs) G2 H2 F2 r2 (g1.trans g2) (.cons (z1.inc g2.up) z2)
/-- the length that lists and tuples may have -/
def lineOk {α : Type} (xs : List α) : Bool := decide (xs.length ≤ 16777216)
theorem lineOk.le {α : Type} {xs : List α} (h : lineOk xs = true) : xs.length ≤ sizeLine := by rw [sizeLine_eq]; exact of_decide_eq_true h
def gLst (g : Sl → R (List D)) : Sl → R Vl := fun S => (g S).bind fun ds S1 => if lineOk ds then .ok ⟨false, 1, .lst ds⟩ S1 else .stuck
def gTup (g : Sl → R (List D)) : Sl → R D := fun S => (g S).bind fun ds S1 => if lineOk ds then .ok (.tup ds) S1 else .stuck
theorem ve_lst {g : Sl → R (List D)} (h : VA p X W es g) : VE p X W (.List es pos) (gLst g) := by
  obtain ⟨t, a1, a2⟩ := h
  refine ⟨_, pe_lst a1, fun σ0 σ G H S F Q r hw => ?_⟩
  refine VA.then (t := t) a2 r hw fun ds S1 vs G1 H1 F1 r1 g1 z1 hw1 => ?_
  split at hw1
  · rename_i hl
    refine ⟨by rw [z1.length]; exact lineOk.le hl, new_lst (G := G) (H := H) (S := S) (F := F) (p := p) (S' := S1) r1 g1 z1 ?_⟩
    exact fun v fp G' H' F' r' g' z' => hw1 v fp G' H' F' r' g' z'
  · exact hw1.elim
theorem vd_tup {g : Sl → R (List D)} {x1} (h : VA p X W es g) : VD p X W (.Tuple es x1 pos) (gTup g) := by
  obtain ⟨t, a1, a2⟩ := h
  refine ⟨_, pe_tup a1, fun σ0 σ G H S F Q r hw => ?_⟩
  refine VA.then (t := t) a2 r hw fun ds S1 vs G1 H1 F1 r1 g1 z1 hw1 => ?_
  split at hw1
  · rename_i hl
    refine ⟨by rw [z1.length]; exact lineOk.le hl, new_tup (G := G) (H := H) (S := S) (F := F) (p := p) (S' := S1) r1 g1 z1 ?_⟩
    exact fun v G' H' F' r' g' z' => hw1 v G' H' F' r' g' z'
  · exact hw1.elim
end
end VL

set_option Elab.async false
set_option linter.all false
set_option autoImplicit false
set_option maxRecDepth 100000
namespace VL
open PySem PySem.Spec L2
open PyProof.Rows hiding St

/-! ## data as the library's data -/
mutual
def D.py : D → PyData
  | .non => .none | .bl b => .bool b | .int i => .int i | .str x => .str x
  | .lst xs => .list (D.pyL xs) | .tup xs => .tuple (D.pyL xs)
  | .ty _ => .none | .dK _ _ => .none | .dT _ _ => .none | .obj _ _ _ => .none | .exc _ _ _ _ => .none | .kl _ _ _ => .none
def D.pyL : List D → List PyData
  | [] => []
  | d :: ds => d.py :: D.pyL ds
end
mutual
def D.plain : D → Bool
  | .non | .bl _ | .int _ | .str _ => true
  | .lst xs => D.plainL xs
  | .tup xs => D.plainL xs
  | _ => false
def D.plainL : List D → Bool
  | [] => true
  | d :: ds => d.plain && D.plainL ds
end
theorem pyL_map : ∀ ds : List D, D.pyL ds = ds.map D.py
  | [] => rfl
  | d :: ds => by simp [D.pyL, pyL_map ds]
theorem plainL_all : ∀ ds : List D, D.plainL ds = ds.all D.plain
  | [] => rfl
  | d :: ds => by simp [D.plainL, plainL_all ds]
mutual
theorem D.py_plain : ∀ d : D, d.plain = true → d.py.plain = true
  | .non, _ => rfl
  | .bl _, _ => rfl
  | .int _, _ => rfl
  | .str _, _ => rfl
  | .lst xs, h => by
    simp only [D.py, PyData.plain]
    exact D.pyL_plain xs (by simpa [D.plain] using h)
  | .tup xs, h => by
    simp only [D.py, PyData.plain]
    exact D.pyL_plain xs (by simpa [D.plain] using h)
  | .ty _, h => by simp [D.plain] at h
  | .dK _ _, h => by simp [D.plain] at h
  | .dT _ _, h => by simp [D.plain] at h
  | .obj _ _ _, h => by simp [D.plain] at h
  | .exc _ _ _ _, h => by simp [D.plain] at h
  | .kl _ _ _, h => by simp [D.plain] at h
theorem D.pyL_plain : ∀ ds : List D, D.plainL ds = true → PyData.plainAll (D.pyL ds) = true
  | [], _ => rfl
  | d :: ds, h => by
    simp only [D.plainL, Bool.and_eq_true] at h
    simp only [D.pyL, PyData.plainAll, Bool.and_eq_true]
    exact ⟨D.py_plain d h.1, D.pyL_plain ds h.2⟩
end
mutual
theorem Fz.dp {K : PySem.W.Frag} {G : Hp} : ∀ (d : D) (v : V), d.plain = true → Fz G d v → Dp K G v d.py
  | .non, v, _, h => by simp only [Fz] at h; subst h; exact .non
  | .bl b, v, _, h => by simp only [Fz] at h; subst h; exact .bl b
  | .int b, v, _, h => by simp only [Fz] at h; subst h; exact .int b
  | .str b, v, _, h => by simp only [Fz] at h; subst h; exact .str b
  | .lst xs, v, hp, h => by
    simp only [Fz] at h
    obtain ⟨a, vs, rfl, r, q⟩ := h
    exact .lst (.inl (.inl r)) (FzL.dp xs vs (by simpa [D.plain] using hp) q)
  | .tup xs, v, hp, h => by
    simp only [Fz] at h
    obtain ⟨a, vs, rfl, r, q⟩ := h
    exact .tup (.inl (.inl r)) (FzL.dp xs vs (by simpa [D.plain] using hp) q)
  | .ty _, v, h, _ => by simp [D.plain] at h
  | .dK _ _, v, h, _ => by simp [D.plain] at h
  | .dT _ _, v, h, _ => by simp [D.plain] at h
  | .obj _ _ _, v, h, _ => by simp [D.plain] at h
  | .exc _ _ _ _, v, h, _ => by simp [D.plain] at h
  | .kl _ _ _, v, h, _ => by simp [D.plain] at h
theorem FzL.dp {K : PySem.W.Frag} {G : Hp} : ∀ (ds : List D) (vs : List V), D.plainL ds = true → FzL G ds vs → DpAll K G vs (D.pyL ds)
  | [], vs, _, h => by simp only [FzL] at h; subst h; exact .nil
  | d :: ds, vs, hp, h => by
    simp only [FzL] at h
    obtain ⟨v, r, rfl, h1, h2⟩ := h
    simp only [D.plainL, Bool.and_eq_true] at hp
    exact .cons (Fz.dp d v hp.1 h1) (FzL.dp ds r hp.2 h2)
end
mutual
theorem Dp.inc {K : PySem.W.Frag} {G H : Hp} (m : Inc G H) : ∀ (d : PyData) (v : V), Dp K G v d → Dp K H v d
  | .none, v, h => by cases h; exact .non
  | .bool _, v, h => by cases h; exact .bl _
  | .int _, v, h => by cases h; exact .int _
  | .str _, v, h => by cases h; exact .str _
  | .list ds, v, h => by cases h with | lst s q => exact .lst (s.imp (m.le.rd _ _) id) (DpAll.inc m ds _ q)
  | .tuple ds, v, h => by cases h with | tup s q => exact .tup (s.imp (m.le.rd _ _) id) (DpAll.inc m ds _ q)
  | .dict _, v, h => by cases h
theorem DpAll.inc {K : PySem.W.Frag} {G H : Hp} (m : Inc G H) : ∀ (ds : List PyData) (vs : List V), DpAll K G vs ds → DpAll K H vs ds
  | [], vs, h => by cases h; exact .nil
  | d :: ds, vs, h => by cases h with | cons a b => exact .cons (Dp.inc m d _ a) (DpAll.inc m ds _ b)
end
theorem owL_dp {K : PySem.W.Frag} {H : Hp} {P : D → V → List Addr → Prop} : ∀ {ds : List D} {vs : List V} {fp : List Addr}, D.plainL ds = true → (∀ d v f, d.plain = true → P d v f → Dp K H v d.py) → OwL P ds vs fp → DpAll K H vs (D.pyL ds)
  | [], vs, fp, _, _, h => by obtain ⟨rfl, _⟩ := h; exact .nil
  | d :: ds, vs, fp, hp, m, h => by
    obtain ⟨v, r, f, g, rfl, _, h1, h2⟩ := h
    simp only [D.plainL, Bool.and_eq_true] at hp
    exact .cons (m d v f hp.1 h1) (owL_dp hp.2 m h2)
theorem Ow.dp {K : PySem.W.Frag} {G H : Hp} (m : Inc G H) : ∀ {k : Nat} {d : D} {v : V} {fp : List Addr}, d.plain = true → Ow G H k d v fp → Dp K H v d.py
  | 0, d, v, fp, hp, h => (h.1.inc m).dp d v hp
  | k + 1, .lst ds, v, fp, hp, h => by
    obtain ⟨a, vs, f, rfl, r, _, z⟩ := h
    exact .lst (.inl (.inl r)) (owL_dp (by simpa [D.plain] using hp) (fun d v f hp h => Ow.dp m hp h) z)
  | k + 1, .dK ks ds, v, fp, hp, h => by simp [D.plain] at hp
  | k + 1, .dT ks ds, v, fp, hp, h => by simp [D.plain] at hp
  | k + 1, .obj c ns ds, v, fp, hp, h => by simp [D.plain] at hp
  | k + 1, .exc _ _ _ _, v, fp, hp, h => by simp [D.plain] at hp
  | k + 1, .kl _ _ _, v, fp, hp, h => by simp [D.plain] at hp
  | k + 1, .non, v, fp, hp, h => Fz.dp (G := H) _ v hp (h.1.inc m)
  | k + 1, .bl b, v, fp, hp, h => Fz.dp (G := H) _ v hp (h.1.inc m)
  | k + 1, .int b, v, fp, hp, h => Fz.dp (G := H) _ v hp (h.1.inc m)
  | k + 1, .str b, v, fp, hp, h => Fz.dp (G := H) _ v hp (h.1.inc m)
  | k + 1, .ty b, v, fp, hp, h => by simp [D.plain] at hp
  | k + 1, .tup b, v, fp, hp, h => Fz.dp (G := H) _ v hp (h.1.inc m)

/-! ## values that are read, owned or frozen -/
def Rv (G H : Hp) (d : D) (v : V) : Prop := ∃ k fp, Ow G H k d v fp
/-- the same, the items of a list being frozen -/
def Rv1 (G H : Hp) (d : D) (v : V) : Prop := ∃ k fp, k ≤ 1 ∧ Ow G H k d v fp
theorem Fz.rv {G H : Hp} {d : D} {v : V} (h : Fz G d v) : Rv G H d v := ⟨0, [], h, rfl⟩
theorem Fz.rv1 {G H : Hp} {d : D} {v : V} (h : Fz G d v) : Rv1 G H d v := ⟨0, [], by decide, h, rfl⟩
theorem Rv1.rv {G H : Hp} {d : D} {v : V} (h : Rv1 G H d v) : Rv G H d v := let ⟨k, fp, _, z⟩ := h; ⟨k, fp, z⟩
theorem Rv.dp {K : PySem.W.Frag} {G H : Hp} {d : D} {v : V} (h : Rv G H d v) (m : Inc G H) (hp : d.plain = true) : Dp K H v d.py := let ⟨_, _, z⟩ := h; z.dp m hp
theorem Rv.int {G H : Hp} {i : Int} {v : V} (h : Rv G H (.int i) v) : v = .int i := by
  obtain ⟨k, fp, z⟩ := h
  have := (z.atom rfl).1
  simpa [Fz] using this
theorem Rv.bl {G H : Hp} {i : Bool} {v : V} (h : Rv G H (.bl i) v) : v = .bl i := by
  obtain ⟨k, fp, z⟩ := h
  have := (z.atom rfl).1
  simpa [Fz] using this
theorem Rv.str {G H : Hp} {i : Str} {v : V} (h : Rv G H (.str i) v) : v = .str i := by
  obtain ⟨k, fp, z⟩ := h
  have := (z.atom rfl).1
  simpa [Fz] using this
theorem Rv.non {G H : Hp} {v : V} (h : Rv G H .non v) : v = .non := by
  obtain ⟨k, fp, z⟩ := h
  have := (z.atom rfl).1
  simpa [Fz] using this
theorem OwL.get {P : D → V → List Addr → Prop} : ∀ {ds : List D} {vs : List V} {fp : List Addr} {i : Nat} {d : D}, OwL P ds vs fp → ds[i]? = some d → ∃ v f, vs[i]? = some v ∧ P d v f ∧ ∀ a ∈ f, a ∈ fp
  | [], vs, fp, i, d, h, e => by simp at e
  | d0 :: ds, vs, fp, 0, d, h, e => by
    obtain ⟨v, r, f, g, rfl, rfl, h1, h2⟩ := h
    simp at e; subst e
    exact ⟨v, f, rfl, h1, fun a ha => List.mem_append_left _ ha⟩
  | d0 :: ds, vs, fp, i + 1, d, h, e => by
    obtain ⟨v, r, f, g, rfl, rfl, h1, h2⟩ := h
    obtain ⟨u, f', e1, e2, e3⟩ := OwL.get (i := i) h2 (by simpa using e)
    exact ⟨u, f', by simpa using e1, e2, fun a ha => List.mem_append_right _ (e3 a ha)⟩
theorem Rv.lst {G H : Hp} {ds : List D} {v : V} (h : Rv G H (.lst ds) v) (m : Inc G H) : ∃ a vs, v = .ref a ∧ H a = some (.lst vs) ∧ vs.length = ds.length ∧ ∀ (i : Nat) (d : D), ds[i]? = some d → ∃ u, vs[i]? = some u ∧ Rv G H d u := by
  obtain ⟨k, fp, z⟩ := h
  cases k with
  | zero =>
    obtain ⟨z, _⟩ := z
    simp only [Fz] at z
    obtain ⟨a, vs, e, r, q⟩ := z
    exact ⟨a, vs, e, m _ _ r, q.length, fun i d hd => let ⟨u, e1, e2⟩ := q.get hd; ⟨u, e1, e2.rv⟩⟩
  | succ k =>
    obtain ⟨a, vs, f, e, r, _, q⟩ := z
    exact ⟨a, vs, e, r, q.length, fun i d hd => let ⟨u, f', e1, e2, _⟩ := q.get hd; ⟨u, e1, k, f', e2⟩⟩
theorem OwL.fz0 {G H : Hp} : ∀ {ds : List D} {vs : List V} {fp : List Addr}, OwL (Ow G H 0) ds vs fp → FzL G ds vs
  | [], vs, fp, h => by obtain ⟨rfl, _⟩ := h; exact .nil
  | d :: ds, vs, fp, h => by
    obtain ⟨v, r, f, g, rfl, _, h1, h2⟩ := h
    exact .cons h1.1 (OwL.fz0 h2)
theorem Rv1.lst {G H : Hp} {ds : List D} {v : V} (h : Rv1 G H (.lst ds) v) (m : Inc G H) : ∃ a vs, v = .ref a ∧ H a = some (.lst vs) ∧ FzL G ds vs := by
  obtain ⟨k, fp, hk, z⟩ := h
  rcases Nat.le_one_iff_eq_zero_or_eq_one.mp hk with rfl | rfl
  · obtain ⟨z, _⟩ := z
    simp only [Fz] at z
    obtain ⟨a, vs, e, r, q⟩ := z
    exact ⟨a, vs, e, m _ _ r, q⟩
  · obtain ⟨a, vs, f, e, r, _, q⟩ := z
    exact ⟨a, vs, e, r, OwL.fz0 q⟩
theorem Rv.tup {G H : Hp} {ds : List D} {v : V} (h : Rv G H (.tup ds) v) (m : Inc G H) : ∃ a vs, v = .ref a ∧ H a = some (.tup vs) ∧ FzL G ds vs := by
  obtain ⟨k, fp, z⟩ := h
  have z := (z.atom rfl).1
  simp only [Fz] at z
  obtain ⟨a, vs, e, r, q⟩ := z
  exact ⟨a, vs, e, m _ _ r, q⟩
theorem FzL.ints {G : Hp} : ∀ {ns : List Int} {vs : List V}, FzL G (ns.map D.int) vs → vs = ns.map V.int
  | [], vs, h => by simpa [FzL] using h
  | n :: ns, vs, h => by
    simp only [List.map_cons, FzL, Fz] at h
    obtain ⟨v, r, rfl, rfl, h2⟩ := h
    simp [FzL.ints h2]
theorem FzL.bls {G : Hp} : ∀ {ns : List Bool} {vs : List V}, FzL G (ns.map D.bl) vs → vs = ns.map V.bl
  | [], vs, h => by simpa [FzL] using h
  | n :: ns, vs, h => by
    simp only [List.map_cons, FzL, Fz] at h
    obtain ⟨v, r, rfl, rfl, h2⟩ := h
    simp [FzL.bls h2]
/-- the ints of a list of ints -/
def D.ints : List D → Option (List Int)
  | [] => some []
  | .int i :: ds => (D.ints ds).map (i :: ·)
  | _ => none
theorem D.ints_map : ∀ {ds : List D} {ns : List Int}, D.ints ds = some ns → ds = ns.map D.int
  | [], ns, h => by cases h; rfl
  | .int i :: ds, ns, h => by
    simp only [D.ints, Option.map_eq_some_iff] at h
    obtain ⟨m, h1, rfl⟩ := h
    simp [D.ints_map h1]
  | .non :: _, _, h => by cases h
  | .bl _ :: _, _, h => by cases h
  | .str _ :: _, _, h => by cases h
  | .ty _ :: _, _, h => by cases h
  | .lst _ :: _, _, h => by cases h
  | .tup _ :: _, _, h => by cases h
  | .dK _ _ :: _, _, h => by cases h
  | .dT _ _ :: _, _, h => by cases h
  | .obj _ _ _ :: _, _, h => by cases h
  | .exc _ _ _ _ :: _, _, h => by cases h
  | .kl _ _ _ :: _, _, h => by cases h
theorem D.ints_of (ns : List Int) : D.ints (ns.map D.int) = some ns := by
  induction ns with
  | nil => rfl
  | cons n ns ih => simp [D.ints, ih]
end VL

set_option Elab.async false
set_option linter.all false
set_option autoImplicit false
set_option maxRecDepth 100000
namespace VL
open PySem PySem.Spec L2
open PyProof.Rows hiding St

section
variable {X : Cx} {W : WX} {p q : Bool} {e ea eb : Expr} {es : List Expr} {pos : Pos}
variable {σ0 σ : St} {G H G1 H1 G2 H2 : Hp} {F F1 F2 : Fps} {S S1 S2 : Sl}

theorem VP.rv {x : Vl} {v : V} {fp : List Addr} (z : VP H F G1 H1 F1 x v fp) : Rv G1 H1 x.d v := ⟨x.k, fp, z.ow⟩
/-- a value that a reader takes: what is borrowed may be two deep -/
def Vl.lev (x : Vl) : Bool := decide (x.k ≤ 1)
theorem VP.rv1 {x : Vl} {v : V} {fp : List Addr} (z : VP H F G1 H1 F1 x v fp) (h : x.lev = true) : Rv1 G1 H1 x.d v := ⟨x.k, fp, of_decide_eq_true h, z.ow⟩

/-! ### a name that is owned: read where it stands, moved, frozen -/
def gBor (i : Nat) : Sl → R Vl := fun S => match S[i]? with
  | some ⟨_, some (k, d)⟩ => .ok ⟨true, k, d⟩ S
  | _ => .stuck
theorem ve_bor (i : Nat) {x : Str} {pos : Pos} (hN : X.N[i]? = some x := by rfl) (hv : Vis X.env.scope x := by first | exact Or.inl rfl | exact Or.inr (Or.inl rfl) | exact Or.inr (Or.inr rfl)) (hd : (x == ("__debug__" : Str)) = false := by decide)
    (hcd : (x == ("__classdict__" : Str)) = false := by decide) : VE true X W (.Name x pos) (gBor i) := by
  refine ⟨_, pe_var hN hv hd hcd, fun σ0 σ G H S F Q r hw => ?_⟩
  unfold gBor at hw
  cases hc : S[i]? with
  | none => rw [hc] at hw; exact hw.elim
  | some c =>
    obtain ⟨pin, val⟩ := c
    obtain ⟨_, h2, _⟩ := r.row i _ hc
    rw [hc] at hw
    cases val with
    | none => exact hw.elim
    | some kd =>
      obtain ⟨k, d⟩ := kd
      obtain ⟨v, e1, e2⟩ := h2 k d rfl
      exact ⟨v, e1, hw v (F i) G H F r (.refl r) ⟨e2, (fun h => nomatch h), (fun h => nomatch h), (fun h => nomatch h), (fun h => nomatch h)⟩⟩
/-- a cell is emptied or filled -/
def Sl.put (S : Sl) (i : Nat) (v : Option (Nat × D)) : Sl := match S[i]? with
  | some c => S.set i ⟨c.pin, v⟩
  | none => S
def fpPut (F : Fps) (i : Nat) (f : List Addr) : Fps := fun j => if j = i then f else F j
theorem put_length (S : Sl) (i : Nat) (v : Option (Nat × D)) : (S.put i v).length = S.length := by
  unfold Sl.put
  cases S[i]? <;> simp
theorem put_at {S : Sl} {i : Nat} {c : Cell} {v : Option (Nat × D)} (h : S[i]? = some c) (j : Nat) : (S.put i v)[j]? = if j = i then some ⟨c.pin, v⟩ else S[j]? := by
  unfold Sl.put
  rw [h]
  have hi := (List.getElem?_eq_some_iff.mp h).1
  by_cases hj : j = i
  · subst hj; simp [List.getElem?_set_self hi]
  · rw [List.getElem?_set_ne (Ne.symm hj), if_neg hj]
/-- a cell is changed: its new content is held with the footprint f -/
theorem SR.put {i : Nat} {c : Cell} {w : Option (Nat × D)} {f : List Addr} {σ' : St} (r : SR σ0 G H σ S F) (hc : S[i]? = some c) (hl : σ'.length = σ.length) (hσ : ∀ j, j ≠ i → σ'[j]? = σ[j]?) (hp : c.pin = true → σ'[i]? = σ[i]?)
    (hw : ∀ k d, w = some (k, d) → ∃ v, σ'[i]? = some (some v) ∧ Ow G H k d v f) (hn : w = none → f = []) (nd : f.Nodup) (dj : ∀ j, j ≠ i → ∀ a ∈ f, a ∉ F j) (fs : ∀ a ∈ f, G a = none) : SR σ0 G H σ' (S.put i w) (fpPut F i f) where
  len := by rw [hl, put_length]; exact r.len
  row := fun j cj hj => by
    rw [put_at hc] at hj
    by_cases hji : j = i
    · subst hji
      rw [if_pos rfl] at hj; cases hj
      obtain ⟨h1, _, _⟩ := r.row j c hc
      simp only [fpPut, if_pos]
      exact ⟨fun hp' => (hp hp').trans (h1 hp'), fun k d e => hw k d e, hn⟩
    · rw [if_neg hji] at hj
      obtain ⟨h1, h2, h3⟩ := r.row j cj hj
      simp only [fpPut, if_neg hji]
      rw [hσ j hji]
      exact ⟨h1, h2, h3⟩
  out := fun j hj => by
    rw [put_length] at hj
    have hi := (List.getElem?_eq_some_iff.mp hc).1
    simp only [fpPut, if_neg (show ¬ j = i by omega)]
    exact r.out j hj
  nd := fun j => by
    by_cases hji : j = i
    · subst hji; simpa [fpPut] using nd
    · simpa [fpPut, hji] using r.nd j
  dj := fun j l a h1 h2 => by
    by_cases hji : j = i
    · by_cases hli : l = i
      · rw [hji, hli]
      · simp only [fpPut, if_pos hji] at h1
        simp only [fpPut, if_neg hli] at h2
        exact absurd h2 (dj l hli a h1)
    · simp only [fpPut, if_neg hji] at h1
      by_cases hli : l = i
      · simp only [fpPut, if_pos hli] at h2
        exact absurd h1 (dj j hji a h2)
      · simp only [fpPut, if_neg hli] at h2
        exact r.dj j l a h1 h2
  fs := fun j a h => by
    by_cases hji : j = i
    · simp only [fpPut, if_pos hji] at h; exact fs a h
    · simp only [fpPut, if_neg hji] at h; exact r.fs j a h
  inc := r.inc
  tp := r.tp
def gMov (i : Nat) : Sl → R Vl := fun S => match S[i]? with
  | some ⟨_, some (k, d)⟩ => .ok ⟨false, k, d⟩ (S.put i none)
  | _ => .stuck
theorem ve_mov (i : Nat) {x : Str} {pos : Pos} (hN : X.N[i]? = some x := by rfl) (hv : Vis X.env.scope x := by first | exact Or.inl rfl | exact Or.inr (Or.inl rfl) | exact Or.inr (Or.inr rfl)) (hd : (x == ("__debug__" : Str)) = false := by decide)
    (hcd : (x == ("__classdict__" : Str)) = false := by decide) : VE false X W (.Name x pos) (gMov i) := by
  refine ⟨_, pe_var hN hv hd hcd, fun σ0 σ G H S F Q r hw => ?_⟩
  unfold gMov at hw
  cases hc : S[i]? with
  | none => rw [hc] at hw; exact hw.elim
  | some c =>
    obtain ⟨pin, val⟩ := c
    obtain ⟨_, h2, _⟩ := r.row i _ hc
    rw [hc] at hw
    cases val with
    | none => exact hw.elim
    | some kd =>
      obtain ⟨k, d⟩ := kd
      obtain ⟨v, e1, e2⟩ := h2 k d rfl
      refine ⟨v, e1, hw v (F i) G H (fpPut F i []) ?_ ?_ ?_⟩
      · exact r.put hc rfl (fun _ _ => rfl) (fun _ => rfl) (fun _ _ e => nomatch e) (fun _ => rfl) .nil (fun _ _ a h => by simp at h) fun a h => by simp at h
      · refine ⟨Inc.refl _, fun a h => .inl h, fun _ _ h _ => h, fun j a h => ?_, fun h => nomatch h⟩
        by_cases hj : j = i
        · simp [fpPut, hj] at h
        · simp only [fpPut, if_neg hj] at h; exact .inl ⟨j, h⟩
      · refine ⟨e2, fun _ => r.nd i, fun _ a h => .inl ⟨i, h⟩, fun _ j a h hj => ?_, fun _ a h => r.fs i a h⟩
        by_cases hji : j = i
        · simp [fpPut, hji] at hj
        · simp only [fpPut, if_neg hji] at hj
          exact hji (r.dj j i a hj h)
def gFrz (i : Nat) : Sl → R D := fun S => match S[i]? with
  | some ⟨_, some (_, d)⟩ => .ok d (S.put i (some (0, d)))
  | _ => .stuck
theorem vd_frz (i : Nat) {x : Str} {pos : Pos} (hN : X.N[i]? = some x := by rfl) (hv : Vis X.env.scope x := by first | exact Or.inl rfl | exact Or.inr (Or.inl rfl) | exact Or.inr (Or.inr rfl)) (hd : (x == ("__debug__" : Str)) = false := by decide)
    (hcd : (x == ("__classdict__" : Str)) = false := by decide) : VD false X W (.Name x pos) (gFrz i) := by
  refine ⟨_, pe_var hN hv hd hcd, fun σ0 σ G H S F Q r hw => ?_⟩
  unfold gFrz at hw
  cases hc : S[i]? with
  | none => rw [hc] at hw; exact hw.elim
  | some c =>
    obtain ⟨pin, val⟩ := c
    obtain ⟨_, h2, _⟩ := r.row i _ hc
    rw [hc] at hw
    cases val with
    | none => exact hw.elim
    | some kd =>
      obtain ⟨k, d⟩ := kd
      obtain ⟨v, e1, e2⟩ := h2 k d rfl
      have hi : Inc G (frzd G H (F i)) := frzd_inc fun a h => r.fs i a h
      have z : Fz (frzd G H (F i)) d v := e2.fz hi fun a h o ho => by rw [frzd_at h]; exact ho
      have r2 : SR σ0 G H σ (S.put i none) (fpPut F i []) := r.put hc rfl (fun _ _ => rfl) (fun _ => rfl) (fun _ _ e => nomatch e) (fun _ => rfl) .nil (fun _ _ a h => by simp at h) fun a h => by simp at h
      refine ⟨v, e1, hw v (frzd G H (F i)) H (fpPut F i []) ?_ ?_ z⟩
      · refine ⟨by rw [put_length]; exact r.len, fun j cj hj => ?_, fun j hj => ?_, r2.nd, r2.dj, fun j a h => ?_, fun a o h => ?_, frzd_tup r.tp⟩
        · rw [put_at hc] at hj
          by_cases hji : j = i
          · subst hji
            rw [if_pos rfl] at hj; cases hj
            refine ⟨(r.row j _ hc).1, fun k' d' e => ?_, fun e => nomatch e⟩
            cases e
            exact ⟨v, e1, z, by simp [fpPut]⟩
          · rw [if_neg hji] at hj
            obtain ⟨h1, h2, h3⟩ := r.row j cj hj
            simp only [fpPut, if_neg hji]
            refine ⟨h1, fun k' d' e => ?_, h3⟩
            obtain ⟨u, q1, q2⟩ := h2 k' d' e
            exact ⟨u, q1, q2.keep hi fun _ _ _ h => h⟩
        · rw [put_length] at hj
          exact r2.out j (by rw [put_length]; exact hj)
        · by_cases hji : j = i
          · simp [fpPut, hji] at h
          · simp only [fpPut, if_neg hji] at h
            rw [frzd_ne fun h' => hji (r.dj j i a h h')]
            exact r.fs j a h
        · by_cases hf : a ∈ F i
          · rw [frzd_at hf] at h; exact h
          · rw [frzd_ne hf] at h; exact r.inc a o h
      · refine ⟨hi, fun a h => ?_, fun _ _ h _ => h, fun j a h => ?_, fun h => nomatch h⟩
        · by_cases hf : a ∈ F i
          · exact .inr (.inl ⟨i, hf⟩)
          · rw [frzd_ne hf] at h; exact .inl h
        · by_cases hj : j = i
          · simp [fpPut, hj] at h
          · simp only [fpPut, if_neg hj] at h; exact .inl ⟨j, h⟩

/-! ### calls of built-ins -/
def gApp (h : List D → Option D) (ga : Sl → R (List D)) : Sl → R D := fun S => (ga S).bind fun ds S1 => match h ds with | some d => .ok d S1 | none => .stuck
def CallD (r : List V → Hp → VK → Prop) (h : List D → Option D) : Prop := ∀ ds d, h ds = some d → ∀ G H vs Q, FzL G ds vs → Inc G H → (∀ w, Fz G d w → Q w H) → r vs H Q
theorem vd_callB {x : Str} {pn : Pos} {id : String} {r : List V → Hp → VK → Prop} {h : List D → Option D} {ga : Sl → R (List D)} (hc : CallR X (.builtin id) r) (hr : CallD r h) (ha : VA p X W (e :: es) ga) (hg : Gl X x := by rfl) (hm : X.mg x = none) (hv : bootBuiltins x = some (.builtin id))
    (hn : x ≠ "__name__" := by decide) (hdb : (x == ("__debug__" : Str)) = false := by decide)
    (he : starEach (e :: es) X.env = (false, eval e X.env) :: starEach es X.env := by rfl) (hpl : (backTo pos (starEach es X.env)).any (·.1) = false := by rfl) : VD p X W (.Call (.Name x pn) (e :: es) [] pos) (gApp h ga) := by
  obtain ⟨t, a1, a2⟩ := ha
  refine ⟨_, pe_callB hc hg hm hv a1 hn hdb he hpl, fun σ0 σ G H S F Q r' hw => ?_⟩
  refine VA.then (t := t) a2 r' hw fun ds S1 vs G1 H1 F1 r1 g1 z1 hw1 => ?_
  cases hd : h ds with
  | none => rw [hd] at hw1; exact hw1.elim
  | some d =>
    rw [hd] at hw1
    exact hr ds d hd G1 H1 vs _ z1 r1.inc fun w z => hw1 w G1 H1 F1 r1 g1 z
theorem vd_callTy {x : Str} {pn : Pos} {id : String} {r : List V → Hp → VK → Prop} {h : List D → Option D} {ga : Sl → R (List D)} (hc : CallR X (.type id) r) (hr : CallD r h) (ha : VA p X W (e :: es) ga) (hg : Gl X x := by rfl) (hm : X.mg x = none) (hv : bootBuiltins x = some (.type id))
    (hn : x ≠ "__name__" := by decide) (hdb : (x == ("__debug__" : Str)) = false := by decide)
    (he : starEach (e :: es) X.env = (false, eval e X.env) :: starEach es X.env := by rfl) (hpl : (backTo pos (starEach es X.env)).any (·.1) = false := by rfl) : VD p X W (.Call (.Name x pn) (e :: es) [] pos) (gApp h ga) := by
  obtain ⟨t, a1, a2⟩ := ha
  refine ⟨_, pe_callTy hc hg hm hv a1 hn hdb he hpl, fun σ0 σ G H S F Q r' hw => ?_⟩
  refine VA.then (t := t) a2 r' hw fun ds S1 vs G1 H1 F1 r1 g1 z1 hw1 => ?_
  cases hd : h ds with
  | none => rw [hd] at hw1; exact hw1.elim
  | some d =>
    rw [hd] at hw1
    exact hr ds d hd G1 H1 vs _ z1 r1.inc fun w z => hw1 w G1 H1 F1 r1 g1 z
/-- one argument that is read, owned or not -/
def gApp1 (h : D → Option D) (g : Sl → R Vl) : Sl → R D := fun S => (g S).bind fun x S1 => match h x.d with | some d => .ok d S1 | none => .stuck
def CallV (r : List V → Hp → VK → Prop) (h : D → Option D) : Prop := ∀ x d, h x = some d → ∀ G H v Q, Rv G H x v → Inc G H → (∀ w, Fz G d w → Q w H) → r [v] H Q
theorem vd_callB1 {x : Str} {pn : Pos} {id : String} {r : List V → Hp → VK → Prop} {h : D → Option D} {g : Sl → R Vl} (hc : CallR X (.builtin id) r) (hr : CallV r h) (ha : VE p X W e g) (hg : Gl X x := by rfl) (hm : X.mg x = none) (hv : bootBuiltins x = some (.builtin id))
    (hn : x ≠ "__name__" := by decide) (hdb : (x == ("__debug__" : Str)) = false := by decide)
    (he : starEach [e] X.env = (false, eval e X.env) :: starEach [] X.env := by rfl) (hpl : (backTo pos (starEach [] X.env)).any (·.1) = false := by rfl) : VD p X W (.Call (.Name x pn) [e] [] pos) (gApp1 h g) := by
  obtain ⟨t, a1, a2⟩ := ha
  refine ⟨_, pe_callB hc hg hm hv (pa_cons a1 pa_nil he) hn hdb he hpl, fun σ0 σ G H S F Q r' hw => ?_⟩
  refine VE.then (t := t) a2 r' hw fun y S1 v fp G1 H1 F1 r1 g1 z1 hw1 => ?_
  cases hd : h y.d with
  | none => rw [hd] at hw1; exact hw1.elim
  | some d =>
    rw [hd] at hw1
    exact hr y.d d hd G1 H1 v _ z1.rv r1.inc fun w z => hw1 w G1 H1 F1 r1 g1 z
/-- one argument; a new list of frozen items comes -/
def gNew1 (h : D → Option (List D)) (g : Sl → R Vl) : Sl → R Vl := fun S => (g S).bind fun x S1 => if x.lev then (match h x.d with | some ds => .ok ⟨false, 1, .lst ds⟩ S1 | none => .stuck) else .stuck
def CallN (r : List V → Hp → VK → Prop) (h : D → Option (List D)) : Prop := ∀ x ds, h x = some ds → ∀ G H v Q, Rv1 G H x v → Inc G H → (∀ vs a, FzL G ds vs → H a = none → Q (.ref a) (upd H a (.lst vs))) → r [v] H Q
theorem new1_ok {r : List V → Hp → VK → Prop} {h : D → Option (List D)} {Q : VK} {y : Vl} {v : V} {fp : List Addr} (hr : CallN r h) (r1 : SR σ0 G1 H1 σ S1 F1) (g1 : Gr p G H F S G1 H1 F1 S1) (z1 : VP H F G1 H1 F1 y v fp)
    (hw1 : (if y.lev then (match h y.d with | some ds => R.ok (⟨false, 1, .lst ds⟩ : Vl) S1 | none => .stuck) else .stuck).wp (OkV p σ0 σ G H S F Q) (OkE σ0 σ G1 H1 S1 F1 W)) : r [v] H1 Q := by
  split at hw1
  · rename_i hl
    cases hd : h y.d with
    | none => rw [hd] at hw1; exact hw1.elim
    | some ds =>
      rw [hd] at hw1
      exact hr y.d ds hd G1 H1 v _ (z1.rv1 hl) r1.inc fun vs a z ha => new_lst (S' := S1) r1 g1 z hw1 a ha
  · exact hw1.elim
theorem ve_newB1 {x : Str} {pn : Pos} {id : String} {r : List V → Hp → VK → Prop} {h : D → Option (List D)} {g : Sl → R Vl} (hc : CallR X (.builtin id) r) (hr : CallN r h) (ha : VE p X W e g) (hg : Gl X x := by rfl) (hm : X.mg x = none) (hv : bootBuiltins x = some (.builtin id))
    (hn : x ≠ "__name__" := by decide) (hdb : (x == ("__debug__" : Str)) = false := by decide)
    (he : starEach [e] X.env = (false, eval e X.env) :: starEach [] X.env := by rfl) (hpl : (backTo pos (starEach [] X.env)).any (·.1) = false := by rfl) : VE p X W (.Call (.Name x pn) [e] [] pos) (gNew1 h g) := by
  obtain ⟨t, a1, a2⟩ := ha
  refine ⟨_, pe_callB hc hg hm hv (pa_cons a1 pa_nil he) hn hdb he hpl, fun σ0 σ G H S F Q r' hw => ?_⟩
  exact VE.then (t := t) a2 r' hw fun y S1 v fp G1 H1 F1 r1 g1 z1 hw1 => new1_ok (W := W) hr r1 g1 z1 hw1
theorem ve_newTy1 {x : Str} {pn : Pos} {id : String} {r : List V → Hp → VK → Prop} {h : D → Option (List D)} {g : Sl → R Vl} (hc : CallR X (.type id) r) (hr : CallN r h) (ha : VE p X W e g) (hg : Gl X x := by rfl) (hm : X.mg x = none) (hv : bootBuiltins x = some (.type id))
    (hn : x ≠ "__name__" := by decide) (hdb : (x == ("__debug__" : Str)) = false := by decide)
    (he : starEach [e] X.env = (false, eval e X.env) :: starEach [] X.env := by rfl) (hpl : (backTo pos (starEach [] X.env)).any (·.1) = false := by rfl) : VE p X W (.Call (.Name x pn) [e] [] pos) (gNew1 h g) := by
  obtain ⟨t, a1, a2⟩ := ha
  refine ⟨_, pe_callTy hc hg hm hv (pa_cons a1 pa_nil he) hn hdb he hpl, fun σ0 σ G H S F Q r' hw => ?_⟩
  exact VE.then (t := t) a2 r' hw fun y S1 v fp G1 H1 F1 r1 g1 z1 hw1 => new1_ok (W := W) hr r1 g1 z1 hw1
end
end VL

set_option Elab.async false
set_option linter.all false
set_option autoImplicit false
set_option maxRecDepth 100000
namespace VL
open PySem PySem.Spec L2
open PyProof.Rows hiding St

section
variable {X : Cx} {W : WX} {p q : Bool} {e ea eb : Expr} {es : List Expr} {pos : Pos}
variable {σ0 σ : St} {G H G1 H1 G2 H2 : Hp} {F F1 F2 : Fps} {S S1 S2 : Sl}

/-! ### two operands that are read, owned or not -/
def gOpV (q : Bool) (h : D → D → Option D) (ga gb : Sl → R Vl) : Sl → R D := fun S => (ga S).bind fun x S1 => (gb S1).bind fun y S2 => if x.b && !q then .stuck else match h x.d y.d with | some d => .ok d S2 | none => .stuck
def OpV (r : R2) (h : D → D → Option D) : Prop := ∀ x y d, h x y = some d → ∀ G H v u Q, Rv G H x v → Rv G H y u → Inc G H → (∀ w, Fz G d w → Q w H) → r v u H Q
theorem opV_two {ta tb : TE} {r2 : R2} {h : D → D → Option D} (hr : OpV r2 h) {ga gb : Sl → R Vl} {Q : VK}
    (ha : ∀ σ0 σ G H S F Q, SR σ0 G H σ S F → (ga S).wp (OkV p σ0 σ G H S F Q) (OkE σ0 σ G H S F W) → ta σ H Q)
    (hb : ∀ σ0 σ G H S F Q, SR σ0 G H σ S F → (gb S).wp (OkV q σ0 σ G H S F Q) (OkE σ0 σ G H S F W) → tb σ H Q)
    (r : SR σ0 G H σ S F) (hw : (gOpV q h ga gb S).wp (OkD (p && q) σ0 σ G H S F Q) (OkE σ0 σ G H S F W)) : tOp r2 ta tb σ H Q := by
  refine VE.then (t := ta) ha r hw fun x S1 v fp G1 H1 F1 r1 g1 z1 hw1 => ?_
  refine VE.then (t := tb) hb r1 hw1 fun y S2 u fq G2 H2 F2 r2 g2 z2 hw2 => ?_
  split at hw2
  · exact hw2.elim
  · rename_i hx
    have hx' : x.b = false ∨ q = true := by
      cases hb : x.b with
      | false => exact .inl rfl
      | true =>
        cases hq : q with
        | true => exact .inr rfl
        | false => rw [hb, hq] at hx; exact absurd rfl hx
    cases hd : h x.d y.d with
    | none => rw [hd] at hw2; exact hw2.elim
    | some d =>
      rw [hd] at hw2
      exact hr x.d y.d d hd G2 H2 v u _ (z1.carry g2 hx').rv z2.rv r2.inc fun w z => hw2 w G2 H2 F2 r2 (g1.trans g2) z
theorem vd_cmpV {op : CmpOp} {r2 : R2} {h : D → D → Option D} {ga gb : Sl → R Vl} (ho : OpR X (compareOp op) r2) (hr : OpV r2 h) (hm : behindInMarks op eb = false) (a : VE p X W ea ga) (b : VE q X W eb gb) :
    VD (p && q) X W (.Compare ea [op] [eb] pos) (gOpV q h ga gb) := by
  obtain ⟨ta, a1, a2⟩ := a
  obtain ⟨tb, b1, b2⟩ := b
  exact ⟨_, pe_cmpR ho a1 b1 hm, fun σ0 σ G H S F Q r hw => opV_two hr a2 b2 r hw⟩
theorem vt_cmpV {op : CmpOp} {r2 : R2} {h : D → D → Option D} {ga gb : Sl → R Vl} (ho : OpR X (compareOp op) r2) (hr : OpV r2 h) (hm : behindInMarks op eb = false) (a : VE p X W ea ga) (b : VE q X W eb gb) :
    VT (p && q) X W (.Compare ea [op] [eb] pos) (gBool (gOpV q h ga gb)) := by
  obtain ⟨ta, a1, a2⟩ := a
  obtain ⟨tb, b1, b2⟩ := b
  refine ⟨_, pt_cmpR ho a1 b1 hm, fun σ0 σ G H S F Q r hw => opV_two (Q := fun x H' => ∃ k, x = .bl k ∧ Q k H') hr a2 b2 r ?_⟩
  refine R.wp_mono (R.wp_bind hw) (fun d S' hd v G' H' F' r' g' z => ?_) fun _ _ _ h => h
  cases d <;> first | exact hd.elim | skip
  exact ⟨_, z, hd G' H' F' r' g'⟩

/-! ### == and in of data -/
def rEqP (K : PySem.W.Frag) (neg : Bool) : R2 := fun x y H Q => ∃ d e, Dp K H x d ∧ Dp K H y e ∧ d.plain = true ∧ e.plain = true ∧ min d.depth e.depth ≤ 60 ∧ Q (.bl (if neg then !PyData.eqv d e else PyData.eqv d e)) H
theorem op_eqP (hu : X.A.units + 64 < cLine) : OpR X (compareOp .Eq) (rEqP X.K false) := by
  intro pins s σ H x y v u Q I rx ry h
  obtain ⟨d, e, hd, he, pd, pe, hl, q⟩ := h
  obtain ⟨as, r1⟩ := Dp.reads I d x v hd rx
  obtain ⟨bs, r2⟩ := Dp.reads I e y u he ry
  exact SeqAt.eq_plain r1 r2 pd pe (by omega) ⟨.bl _, H, I, rfl, q⟩
theorem op_neP (hu : X.A.units + 64 < cLine) : OpR X (compareOp .NotEq) (rEqP X.K true) := by
  intro pins s σ H x y v u Q I rx ry h
  obtain ⟨d, e, hd, he, pd, pe, hl, q⟩ := h
  obtain ⟨as, r1⟩ := Dp.reads I d x v hd rx
  obtain ⟨bs, r2⟩ := Dp.reads I e y u he ry
  exact SeqAt.ne_plain r1 r2 pd pe (by omega) ⟨.bl _, H, I, rfl, q⟩
def dEqB (x y : D) : Bool := PyData.eqv x.py y.py
def okEq (x y : D) : Bool := x.plain && y.plain && decide (min x.py.depth y.py.depth ≤ 60)
def dEq (neg : Bool) : D → D → Option D := fun x y => if okEq x y then some (.bl (if neg then !dEqB x y else dEqB x y)) else none
theorem opv_eq {neg : Bool} {K : PySem.W.Frag} : OpV (rEqP K neg) (dEq neg) := by
  intro x y d hd G H v u Q zx zy m k
  unfold dEq at hd
  split at hd
  · rename_i hc
    unfold okEq at hc
    simp only [Bool.and_eq_true, decide_eq_true_eq] at hc
    cases hd
    exact ⟨x.py, y.py, zx.dp m hc.1.1, zy.dp m hc.1.2, D.py_plain _ hc.1.1, D.py_plain _ hc.1.2, hc.2, k _ rfl⟩
  · cases hd
def rInP (K : PySem.W.Frag) (neg : Bool) : R2 := fun x y H Q => ∃ d e xs, Dp K H x d ∧ Dp K H y e ∧ (e = .list xs ∨ e = .tuple xs) ∧ d.plain = true ∧ PyData.plainAll xs = true ∧ min (PyData.depthAll xs) d.depth ≤ 60 ∧ Q (.bl (if neg then !xs.any fun y => PyData.eqv y d else xs.any fun y => PyData.eqv y d)) H
theorem op_inP (hu : X.A.units + 64 < cLine) : OpR X (compareOp .In) (rInP X.K false) := by
  intro pins s σ H x y v u Q I rx ry h
  obtain ⟨d, e, xs, hd, he, hx, pd, pe, hl, q⟩ := h
  obtain ⟨as, r1⟩ := Dp.reads I d x v hd rx
  obtain ⟨bs, r2⟩ := Dp.reads I e y u he ry
  rcases hx with rfl | rfl
  · exact SeqAt.in_list_data r2 r1 pe pd (by omega) ⟨.bl _, H, I, rfl, q⟩
  · exact SeqAt.in_tuple_data r2 r1 pe pd (by omega) ⟨.bl _, H, I, rfl, q⟩
theorem op_notInP (hu : X.A.units + 64 < cLine) : OpR X (compareOp .NotIn) (rInP X.K true) := by
  intro pins s σ H x y v u Q I rx ry h
  obtain ⟨d, e, xs, hd, he, hx, pd, pe, hl, q⟩ := h
  obtain ⟨as, r1⟩ := Dp.reads I d x v hd rx
  obtain ⟨bs, r2⟩ := Dp.reads I e y u he ry
  rcases hx with rfl | rfl
  · exact SeqAt.notIn_list_data r2 r1 pe pd (by omega) ⟨.bl _, H, I, rfl, q⟩
  · exact SeqAt.notIn_tuple_data r2 r1 pe pd (by omega) ⟨.bl _, H, I, rfl, q⟩
def D.items : D → Option (List D)
  | .lst xs => some xs
  | .tup xs => some xs
  | _ => none
def dInB (x : D) (ys : List D) : Bool := (D.pyL ys).any fun y => PyData.eqv y x.py
def okIn (x : D) (ys : List D) : Bool := x.plain && D.plainL ys && decide (min (PyData.depthAll (D.pyL ys)) x.py.depth ≤ 60)
def dIn (neg : Bool) : D → D → Option D := fun x y => match y.items with
  | some ys => if okIn x ys then some (.bl (if neg then !dInB x ys else dInB x ys)) else none
  | none => none
theorem opv_in {neg : Bool} {K : PySem.W.Frag} : OpV (rInP K neg) (dIn neg) := by
  intro x y d hd G H v u Q zx zy m k
  unfold dIn at hd
  cases hi : y.items with
  | none => rw [hi] at hd; cases hd
  | some ys =>
    rw [hi] at hd
    simp only at hd
    split at hd
    · rename_i hc
      unfold okIn at hc
      simp only [Bool.and_eq_true, decide_eq_true_eq] at hc
      cases hd
      have hy : y.plain = true ∧ (y.py = .list (D.pyL ys) ∨ y.py = .tuple (D.pyL ys)) := by
        cases y <;> simp only [D.items] at hi <;> cases hi
        · exact ⟨hc.1.2, .inl rfl⟩
        · exact ⟨hc.1.2, .inr rfl⟩
      exact ⟨x.py, y.py, D.pyL ys, zx.dp m hc.1.1, zy.dp m hy.1, hy.2, D.py_plain _ hc.1.1, D.pyL_plain _ hc.1.2, hc.2, k _ rfl⟩
    · cases hd

/-! ### is None, is not None -/
def D.isNon : D → Bool
  | .non => true
  | _ => false
def dIsN (neg : Bool) : D → D → Option D := fun x y => match y with
  | .non => some (.bl (cond neg (!x.isNon) x.isNon))
  | _ => none
theorem rv_non {d : D} {v : V} (h : Rv G H d v) : (decide (v = .non)) = d.isNon := by
  obtain ⟨k, fp, z⟩ := h
  cases k with
  | zero =>
    obtain ⟨z, _⟩ := z
    cases d <;> simp only [Fz] at z <;> first | (subst z; rfl) | (obtain ⟨a, vs, rfl, _⟩ := z; rfl) | (obtain ⟨a, dx, vs, rfl, _⟩ := z; rfl) | (obtain ⟨rfl, _⟩ := z; rfl)
  | succ k =>
    cases d <;> first
      | (obtain ⟨z, _⟩ := z; simp only [Fz] at z; subst z; rfl)
      | (obtain ⟨a, vs, f, rfl, _⟩ := z; rfl)
      | (obtain ⟨z, _⟩ := z; simp only [Fz] at z; obtain ⟨a, vs, rfl, _⟩ := z; rfl)
      | (obtain ⟨a, dx, vs, f, rfl, _⟩ := z; rfl)
      | (obtain ⟨z, _⟩ := z; simp only [Fz] at z; obtain ⟨rfl, _⟩ := z; rfl)
theorem opv_isN : OpV (fun x y H Q => y = .non ∧ Q (.bl (decide (x = .non))) H) (dIsN false) := by
  intro x y d hd G H v u Q zx zy m k
  cases y <;> simp only [dIsN] at hd <;> cases hd
  refine ⟨zy.non, ?_⟩
  rw [rv_non zx]
  exact k _ rfl
theorem opv_notN : OpV (fun x y H Q => y = .non ∧ Q (.bl (!decide (x = .non))) H) (dIsN true) := by
  intro x y d hd G H v u Q zx zy m k
  cases y <;> simp only [dIsN] at hd <;> cases hd
  refine ⟨zy.non, ?_⟩
  rw [rv_non zx]
  exact k _ rfl

/-! ### len, abs, int, max, min of two, gcd, sum, any, all -/
def dLen : D → Option D
  | .lst xs => some (.int xs.length)
  | .tup xs => some (.int xs.length)
  | .str x => if x.length ≤ 16777216 then some (.int x.length) else none
  | _ => none
theorem cv_len : CallV (fun xs H Q => ∃ x n, xs = [x] ∧ LenV X.K x H n ∧ Q (.int n) H) dLen := by
  intro x d hd G H v Q z m k
  cases x <;> simp only [dLen] at hd <;> first | (cases hd; done) | skip
  · rename_i y
    split at hd
    · cases hd
      refine ⟨v, y.length, rfl, ?_, k _ rfl⟩
      rw [z.str]
      exact ⟨by rw [sizeLine_eq]; assumption, rfl⟩
    · cases hd
  · rename_i ds
    cases hd
    obtain ⟨a, vs, rfl, r, l, _⟩ := z.lst m
    exact ⟨_, ds.length, rfl, .inl ⟨vs, .of r, l.symm⟩, k _ rfl⟩
  · rename_i ds
    cases hd
    obtain ⟨a, vs, rfl, r, q⟩ := z.tup m
    exact ⟨_, ds.length, rfl, .inr ⟨vs, .of r, q.length.symm⟩, k _ rfl⟩
def dAbs : List D → Option D
  | [.int i] => some (.int (if i < 0 then -i else i))
  | _ => none
theorem fzL1 {d : D} {vs : List V} (h : FzL G [d] vs) : ∃ v, vs = [v] ∧ Fz G d v := by
  simp only [FzL] at h
  obtain ⟨v, r, rfl, h1, rfl⟩ := h
  exact ⟨v, rfl, h1⟩
theorem fzL2 {d d' : D} {vs : List V} (h : FzL G [d, d'] vs) : ∃ v u, vs = [v, u] ∧ Fz G d v ∧ Fz G d' u := by
  simp only [FzL] at h
  obtain ⟨v, r, rfl, h1, u, r', rfl, h2, rfl⟩ := h
  exact ⟨v, u, rfl, h1, h2⟩
theorem cd_abs : CallD (fun xs H Q => ∃ i, xs = [.int i] ∧ Q (.int (if i < 0 then -i else i)) H) dAbs := by
  intro ds d hd G H vs Q z m k
  match ds, hd with
  | [.int i], hd =>
    cases hd
    obtain ⟨v, rfl, h⟩ := fzL1 z
    exact ⟨i, by simpa [Fz] using h, k _ rfl⟩
def dInt : List D → Option D
  | [.int i] => some (.int i)
  | [.bl b] => some (.int (if b then 1 else 0))
  | _ => none
theorem cd_int : CallD (fun xs H Q => (∃ i, xs = [.int i] ∧ Q (.int i) H) ∨ ∃ k, xs = [.bl k] ∧ Q (.int (if k then 1 else 0)) H) dInt := by
  intro ds d hd G H vs Q z m k
  match ds, hd with
  | [.int i], hd =>
    cases hd
    obtain ⟨v, rfl, h⟩ := fzL1 z
    exact .inl ⟨i, by simpa [Fz] using h, k _ rfl⟩
  | [.bl b], hd =>
    cases hd
    obtain ⟨v, rfl, h⟩ := fzL1 z
    exact .inr ⟨b, by simpa [Fz] using h, k _ rfl⟩
def dMax2 : List D → Option D
  | [.int i, .int j] => some (.int (if j > i then j else i))
  | _ => none
theorem cd_max2 : CallD (fun xs H Q => ∃ i j, xs = [.int i, .int j] ∧ Q (.int (if j > i then j else i)) H) dMax2 := by
  intro ds d hd G H vs Q z m k
  match ds, hd with
  | [.int i, .int j], hd =>
    cases hd
    obtain ⟨v, u, rfl, h, h'⟩ := fzL2 z
    simp only [Fz] at h h'
    exact ⟨i, j, by rw [h, h'], k _ rfl⟩
def dMin2 : List D → Option D
  | [.int i, .int j] => some (.int (if j < i then j else i))
  | _ => none
theorem cd_min2 : CallD (fun xs H Q => ∃ i j, xs = [.int i, .int j] ∧ Q (.int (if j < i then j else i)) H) dMin2 := by
  intro ds d hd G H vs Q z m k
  match ds, hd with
  | [.int i, .int j], hd =>
    cases hd
    obtain ⟨v, u, rfl, h, h'⟩ := fzL2 z
    simp only [Fz] at h h'
    exact ⟨i, j, by rw [h, h'], k _ rfl⟩
def dGcd : List D → Option D
  | [.int i, .int j] => some (.int ((Nat.gcd i.natAbs j.natAbs : Nat) : Int))
  | _ => none
theorem cd_gcd : CallD rGcd dGcd := by
  intro ds d hd G H vs Q z m k
  match ds, hd with
  | [.int i, .int j], hd =>
    cases hd
    obtain ⟨v, u, rfl, h, h'⟩ := fzL2 z
    simp only [Fz] at h h'
    exact ⟨i, j, by rw [h, h'], k _ rfl⟩
/-- what a reader finds in a list of ints, owned or not -/
theorem Rv.ints {ns : List Int} {v : V} (h : Rv G H (.lst (ns.map D.int)) v) (m : Inc G H) : ∃ a, v = .ref a ∧ H a = some (.lst (ns.map V.int)) := by
  obtain ⟨a, vs, e, r, l, g⟩ := h.lst m
  have : vs = ns.map V.int := by
    apply List.ext_getElem? 
    intro i
    by_cases hi : i < ns.length
    · obtain ⟨u, e1, e2⟩ := g i (.int ns[i]) (by simp [hi])
      rw [e1, e2.int]
      simp [hi]
    · rw [List.getElem?_eq_none (by rw [l, List.length_map]; omega), List.getElem?_eq_none (by rw [List.length_map]; omega)]
  subst this
  exact ⟨a, e, r⟩
def dSum : D → Option D
  | .lst ds => (D.ints ds).map fun ns => .int ns.sum
  | _ => none
theorem cv_sum : CallV (rSum X.K) dSum := by
  intro x d hd G H v Q z m k
  cases x <;> simp only [dSum] at hd <;> first | (cases hd; done) | skip
  rename_i ds
  simp only [Option.map_eq_some_iff] at hd
  obtain ⟨ns, h1, rfl⟩ := hd
  rw [D.ints_map h1] at z
  obtain ⟨a, rfl, r⟩ := z.ints m
  exact ⟨a, ns, rfl, .of r, k _ rfl⟩
end
end VL

set_option Elab.async false
set_option linter.all false
set_option autoImplicit false
set_option maxRecDepth 100000
namespace VL
open PySem PySem.Spec L2
open PyProof.Rows hiding St

section
variable {X : Cx} {W : WX} {p q : Bool} {e ea eb : Expr} {es : List Expr} {pos : Pos}
variable {σ0 σ : St} {G H G1 H1 G2 H2 : Hp} {F F1 F2 : Fps} {S S1 S2 : Sl}

/-! ### x[i] -/
def elemV (x : Vl) (d : D) : Vl := if x.k ≤ 1 || d.atom then .fzn d else ⟨true, x.k - 1, d⟩
def ixV (x : Vl) (i : D) : Option Vl := match x.d, i with
  | .lst ds, .int j => (atI ds j).map (elemV x)
  | .tup ds, .int j => (atI ds j).map .fzn
  | .str z, .int j => if z.length ≤ 16777216 then (atI z.cps.toList j).map fun c => .fzn (.str ⟨#[c]⟩) else none
  | _, _ => none
def gIx (q : Bool) (ga : Sl → R Vl) (gb : Sl → R D) : Sl → R Vl := fun S => (ga S).bind fun x S1 => (gb S1).bind fun i S2 => if x.b && !q then .stuck else match ixV x i with | some y => .ok y S2 | none => .stuck
theorem bor_or {b q : Bool} (h : ¬ (b && !q) = true) : b = false ∨ q = true := by
  cases b with
  | false => exact .inl rfl
  | true => cases q with
    | true => exact .inr rfl
    | false => exact absurd rfl h
theorem atI_spec {α : Type} {xs : List α} {i : Int} {v : α} (h : atI xs i = some v) : ∃ j, ixN xs.length i = some j ∧ xs[j]? = some v := by
  unfold atI at h
  cases e : ixN xs.length i with
  | none => rw [e] at h; cases h
  | some j => rw [e] at h; exact ⟨j, rfl, h⟩
theorem atI_of {α β : Type} {xs : List α} {ys : List β} {i : Int} {j : Nat} {u : β} (hl : ys.length = xs.length) (h : ixN xs.length i = some j) (e : ys[j]? = some u) : atI ys i = some u := by
  unfold atI; rw [hl, h]; exact e
theorem ve_ix {ga : Sl → R Vl} {gb : Sl → R D} (a : VE p X W ea ga) (b : VD q X W eb gb) (hs : PlainIx eb := by intro _ _; rfl) : VE (p && q) X W (.Subscript ea eb pos) (gIx q ga gb) := by
  obtain ⟨ta, a1, a2⟩ := a
  obtain ⟨tb, b1, b2⟩ := b
  refine ⟨_, pe_ix ix_seq a1 b1 hs, fun σ0 σ G H S F Q r hw => ?_⟩
  refine VE.then (t := ta) a2 r hw fun x S1 v fp G1 H1 F1 r1 g1 z1 hw1 => ?_
  refine VD.then (t := tb) b2 r1 hw1 fun i S2 u G2 H2 F2 r2 g2 z2 hw2 => ?_
  split at hw2
  · exact hw2.elim
  · rename_i hx
    have z := z1.carry g2 (bor_or hx)
    have g := g1.trans g2
    obtain ⟨xb, xk, xd⟩ := x
    cases hd : ixV ⟨xb, xk, xd⟩ i with
    | none => rw [hd] at hw2; exact hw2.elim
    | some y =>
      rw [hd] at hw2
      unfold ixV at hd
      cases xd <;> cases i <;> first | (simp only at hd; cases hd; done) | skip
      all_goals (simp only [Fz] at z2; subst z2)
      · rename_i s j
        simp only at hd
        split at hd
        · rename_i hs'
          simp only [Option.map_eq_some_iff] at hd
          obtain ⟨c, h1, rfl⟩ := hd
          exact .inr (.inr ⟨s, j, c, z.rv.str, rfl, by rw [sizeLine_eq]; exact hs', h1, hw2 _ [] G2 H2 F2 r2 g (.fzn rfl)⟩)
        · cases hd
      · rename_i ds j
        simp only [Option.map_eq_some_iff] at hd
        obtain ⟨d, h1, rfl⟩ := hd
        obtain ⟨j', h2, h3⟩ := atI_spec h1
        by_cases hk : xk ≤ 1
        · obtain ⟨a, vs, e, rd, fz⟩ := Rv1.lst (G := G2) (H := H2) ⟨xk, fp, hk, z.ow⟩ r2.inc
          obtain ⟨w, e1, e2⟩ := fz.get h3
          have : elemV ⟨xb, xk, .lst ds⟩ d = .fzn d := by simp [elemV, hk]
          rw [this] at hw2
          exact .inl ⟨a, vs, j, w, e, rfl, .of rd, atI_of fz.length h2 e1, hw2 w [] G2 H2 F2 r2 g (.fzn e2)⟩
        · obtain ⟨k, rfl⟩ : ∃ k, xk = k + 2 := ⟨xk - 2, by omega⟩
          obtain ⟨a, vs, f, e, hh, _, ol⟩ := z.ow
          obtain ⟨w, f', e1, e2, _⟩ := ol.get h3
          refine .inl ⟨a, vs, j, w, e, rfl, .of hh, atI_of ol.length h2 e1, ?_⟩
          by_cases ha : d.atom = true
          · have : elemV ⟨xb, k + 2, .lst ds⟩ d = .fzn d := by simp [elemV, ha]
            rw [this] at hw2
            exact hw2 w [] G2 H2 F2 r2 g (.fzn (e2.atom ha).1)
          · have : elemV ⟨xb, k + 2, .lst ds⟩ d = ⟨true, k + 1, d⟩ := by simp [elemV, ha]
            rw [this] at hw2
            exact hw2 w f' G2 H2 F2 r2 g ⟨e2, (fun h => nomatch h), (fun h => nomatch h), (fun h => nomatch h), (fun h => nomatch h)⟩
      · rename_i ds j
        simp only [Option.map_eq_some_iff] at hd
        obtain ⟨d, h1, rfl⟩ := hd
        obtain ⟨j', h2, h3⟩ := atI_spec h1
        obtain ⟨a, vs, e, rd, fz⟩ := z.rv.tup r2.inc
        obtain ⟨w, e1, e2⟩ := fz.get h3
        exact .inr (.inl ⟨a, vs, j, w, e, rfl, .of rd, atI_of fz.length h2 e1, hw2 w [] G2 H2 F2 r2 g (.fzn e2)⟩)

/-! ### x[lo:hi] -/
def gPart (o : Option (Sl → R D)) : Sl → R (Option Int) := fun S => match o with
  | none => .ok none S
  | some g => (g S).bind fun d S1 => match d with | .int i => .ok (some i) S1 | _ => .stuck
def VO (p : Bool) (X : Cx) (W : WX) (e : Option Expr) (o : Option (Sl → R D)) : Prop := match e, o with
  | none, none => True
  | some e, some g => VD p X W e g
  | _, _ => False
def cutD {α : Type} (xs : List α) (lo hi : Option Int) : List α := (xs.drop (HT.sIx xs.length 0 lo)).take (HT.sIx xs.length xs.length hi - HT.sIx xs.length 0 lo)
theorem FzL.drop : ∀ {n : Nat} {ds : List D} {vs : List V}, FzL G ds vs → FzL G (ds.drop n) (vs.drop n)
  | 0, ds, vs, h => h
  | n + 1, [], vs, h => by simp only [FzL] at h; subst h; exact .nil
  | n + 1, d :: ds, vs, h => by
    simp only [FzL] at h
    obtain ⟨v, r, rfl, _, h2⟩ := h
    exact FzL.drop (n := n) h2
theorem FzL.take : ∀ {n : Nat} {ds : List D} {vs : List V}, FzL G ds vs → FzL G (ds.take n) (vs.take n)
  | 0, ds, vs, h => .nil
  | n + 1, [], vs, h => by simp only [FzL] at h; subst h; exact .nil
  | n + 1, d :: ds, vs, h => by
    simp only [FzL] at h
    obtain ⟨v, r, rfl, h1, h2⟩ := h
    exact .cons h1 (FzL.take (n := n) h2)
theorem FzL.cut {ds : List D} {vs : List V} {lo hi : Option Int} (h : FzL G ds vs) : FzL G (cutD ds lo hi) (cutV vs lo hi) := by
  unfold cutD cutV
  rw [h.length]
  exact h.drop.take
theorem cutD_whole {α : Type} {xs : List α} {lo hi : Option Int} (h : HT.sIx xs.length 0 lo = 0 ∧ HT.sIx xs.length xs.length hi = xs.length) : cutD xs lo hi = xs := by
  unfold cutD
  rw [h.1, h.2]
  simp
def slV (x : Vl) (lo hi : Option Int) : Option Vl := match x.d with
  | .lst ds => if x.lev then some ⟨false, 1, .lst (cutD ds lo hi)⟩ else none
  | .tup ds => some (.fzn (.tup (cutD ds lo hi)))
  | _ => none
def gSl (q : Bool) (ga : Sl → R Vl) (lo hi : Option (Sl → R D)) : Sl → R Vl := fun S => (ga S).bind fun x S1 => (gPart lo S1).bind fun l S2 => (gPart hi S2).bind fun h S3 => if x.b && !q then .stuck else match slV x l h with | some y => .ok y S3 | none => .stuck
theorem vo_ok {o : Option Expr} {g : Option (Sl → R D)} (h : VO p X W o g) : ∃ t, PO X o t ∧ ∀ σ0 σ G H S F (Q : Option Int → Hp → Prop), SR σ0 G H σ S F →
    (gPart g S).wp (fun i S' => ∀ G' H' F', SR σ0 G' H' σ S' F' → Gr p G H F S G' H' F' S' → Q i H') (OkE σ0 σ G H S F W) → t σ H Q := by
  cases o with
  | none =>
    cases g with
    | none => exact ⟨_, po_none, fun σ0 σ G H S F Q r hw => hw G H F r (.refl r)⟩
    | some g => exact h.elim
  | some e =>
    cases g with
    | none => exact h.elim
    | some g =>
      obtain ⟨t, h1, h2⟩ := h
      refine ⟨_, po_some h1, fun σ0 σ G H S F Q r hw => ?_⟩
      refine h2 σ0 σ G H S F _ r (R.wp_mono (R.wp_bind hw) (fun d S' hd v G' H' F' r' g' z => ?_) fun _ _ _ h => h)
      cases d <;> first | exact hd.elim | skip
      exact ⟨_, z, hd G' H' F' r' g'⟩
theorem po_then {g : Option (Sl → R D)} {t : TO} {β : Type} {f : Option Int → Sl → R β} {ok : β → Sl → Prop} {Q : Option Int → Hp → Prop}
    (h2 : ∀ σ0 σ G H S F (Q : Option Int → Hp → Prop), SR σ0 G H σ S F → (gPart g S).wp (fun i S' => ∀ G' H' F', SR σ0 G' H' σ S' F' → Gr p G H F S G' H' F' S' → Q i H') (OkE σ0 σ G H S F W) → t σ H Q)
    (r : SR σ0 G H σ S F) (hw : ((gPart g S).bind f).wp ok (OkE σ0 σ G H S F W))
    (k : ∀ i S' G' H' F', SR σ0 G' H' σ S' F' → Gr p G H F S G' H' F' S' → (f i S').wp ok (OkE σ0 σ G' H' S' F' W) → Q i H') : t σ H Q :=
  h2 σ0 σ G H S F Q r (R.wp_mono (R.wp_bind hw) (fun d S' hx G' H' F' r' g' => k d S' G' H' F' r' g' (R.wp_mono hx (fun _ _ h => h) fun c w S' h => h.from g')) fun c w S' h => h)
theorem ve_sl {lo hi : Option Expr} {gl gh : Option (Sl → R D)} {ga : Sl → R Vl} {p2 : Pos} (a : VE p X W ea ga) (l : VO q X W lo gl) (h : VO q X W hi gh) : VE (p && q) X W (.Subscript ea (.Slice lo hi none p2) pos) (gSl q ga gl gh) := by
  obtain ⟨ta, a1, a2⟩ := a
  obtain ⟨tl, l1, l2⟩ := vo_ok l
  obtain ⟨th, h1, h2⟩ := vo_ok h
  refine ⟨_, pe_slice (sl_list.or sl_tupA) a1 l1 h1, fun σ0 σ G H S F Q r hw => ?_⟩
  refine VE.then (t := ta) a2 r hw fun x S1 v fp G1 H1 F1 r1 g1 z1 hw1 => ?_
  refine po_then (t := tl) l2 r1 hw1 fun i S2 G2 H2 F2 r2 g2 hw2 => ?_
  refine po_then (t := th) h2 r2 hw2 fun j S3 G3 H3 F3 r3 g3 hw3 => ?_
  split at hw3
  · exact hw3.elim
  · rename_i hx
    have g23 : Gr q G1 H1 F1 S1 G3 H3 F3 S3 := (g2.trans g3).weak fun h => by simp [h]
    have z := z1.carry g23 (bor_or hx)
    have g : Gr (p && q) G H F S G3 H3 F3 S3 := g1.trans g23
    obtain ⟨xb, xk, xd⟩ := x
    cases hd : slV ⟨xb, xk, xd⟩ i j with
    | none => rw [hd] at hw3; exact hw3.elim
    | some y =>
      rw [hd] at hw3
      unfold slV at hd
      cases xd <;> first | (simp only at hd; cases hd; done) | skip
      · rename_i ds
        simp only at hd
        split at hd
        · rename_i hl
          cases hd
          obtain ⟨b, vs, e, rd, fz⟩ := (z.rv1 hl).lst r3.inc
          exact .inl ⟨b, vs, e, .of rd, fun c hc => new_lst (S' := S3) r3 g fz.cut hw3 c hc⟩
        · cases hd
      · rename_i ds
        cases hd
        obtain ⟨b, vs, e, rd, fz⟩ := z.rv.tup r3.inc
        refine .inr ⟨b, vs, e, .of rd, fun hz => ?_, fun _ c hc => ?_⟩
        · have hz' : HT.sIx ds.length 0 i = 0 ∧ HT.sIx ds.length ds.length j = ds.length := by rw [fz.length] at hz; exact hz
          rw [cutD_whole hz'] at hw3
          have zz := (z.ow.atom rfl).1
          rw [e] at zz
          exact hw3 _ [] G3 H3 F3 r3 g (.fzn zz)
        · exact new_tup (S' := S3) r3 g fz.cut (fun v' G' H' F' r' g' z' => hw3 v' [] G' H' F' r' g' (.fzn z')) c hc
end
end VL

set_option Elab.async false
set_option linter.all false
set_option autoImplicit false
set_option maxRecDepth 100000
namespace VL
open PySem PySem.Spec L2
open PyProof.Rows hiding St

section
variable {X : Cx} {W : WX} {p q : Bool} {e ea eb : Expr} {es : List Expr} {pos : Pos}
variable {σ0 σ : St} {G H G1 H1 G2 H2 : Hp} {F F1 F2 : Fps} {S S1 S2 : Sl}

/-! ### xs + ys: lists; tuples -/
def gNew2 (q : Bool) (h : D → D → Option (List D)) (ga gb : Sl → R Vl) : Sl → R Vl := fun S => (ga S).bind fun x S1 => (gb S1).bind fun y S2 =>
  if x.b && !q then .stuck else if x.lev && y.lev then (match h x.d y.d with | some ds => .ok ⟨false, 1, .lst ds⟩ S2 | none => .stuck) else .stuck
def OpN (r : R2) (h : D → D → Option (List D)) : Prop := ∀ x y ds, h x y = some ds → ∀ G H v u Q, Rv1 G H x v → Rv1 G H y u → Inc G H → (∀ vs a, FzL G ds vs → H a = none → Q (.ref a) (upd H a (.lst vs))) → r v u H Q
theorem ve_op2 {op : Operator} {r2 : R2} {h : D → D → Option (List D)} {ga gb : Sl → R Vl} (ho : OpR X (binaryOp op) r2) (hr : OpN r2 h) (a : VE p X W ea ga) (b : VE q X W eb gb) : VE (p && q) X W (.BinOp ea op eb pos) (gNew2 q h ga gb) := by
  obtain ⟨ta, a1, a2⟩ := a
  obtain ⟨tb, b1, b2⟩ := b
  refine ⟨_, pe_op ho a1 b1, fun σ0 σ G H S F Q r hw => ?_⟩
  refine VE.then (t := ta) a2 r hw fun x S1 v fp G1 H1 F1 r1 g1 z1 hw1 => ?_
  refine VE.then (t := tb) b2 r1 hw1 fun y S2 u fq G2 H2 F2 r2 g2 z2 hw2 => ?_
  split at hw2
  · exact hw2.elim
  · rename_i hx
    split at hw2
    · rename_i hl
      obtain ⟨hl1, hl2⟩ := Bool.and_eq_true_iff.mp hl
      cases hd : h x.d y.d with
      | none => rw [hd] at hw2; exact hw2.elim
      | some ds =>
        rw [hd] at hw2
        exact hr x.d y.d ds hd G2 H2 v u _ ((z1.carry g2 (bor_or hx)).rv1 hl1) (z2.rv1 hl2) r2.inc fun vs a z ha => new_lst (S' := S2) r2 (g1.trans g2) z hw2 a ha
    · exact hw2.elim
def dCat : D → D → Option (List D)
  | .lst xs, .lst ys => if lineOk (xs ++ ys) then some (xs ++ ys) else none
  | _, _ => none
theorem opn_cat : OpN rCat dCat := by
  intro x y ds hd G H v u Q zx zy m k
  cases x <;> cases y <;> simp only [dCat] at hd <;> first | (cases hd; done) | skip
  rename_i xs ys
  split at hd
  · rename_i hl
    cases hd
    obtain ⟨a, vs, rfl, ha, fa⟩ := zx.lst m
    obtain ⟨b, us, rfl, hb, fb⟩ := zy.lst m
    refine ⟨a, b, vs, us, rfl, rfl, ha, hb, ?_, fun p hp => k _ p (fa.append fb) hp⟩
    have := lineOk.le hl
    rw [List.length_append] at this
    rw [fa.length, fb.length]; exact this
  · cases hd
def dRep : D → D → Option (List D)
  | .lst xs, .int k => if decide (-(2 ^ 63) ≤ k ∧ k < 2 ^ 63 ∧ xs.length * k.toNat ≤ 16777216) then some (List.replicate k.toNat xs).flatten else none
  | _, _ => none
theorem FzL.rep {ds : List D} {vs : List V} (h : FzL G ds vs) : ∀ k : Nat, FzL G (List.replicate k ds).flatten (List.replicate k vs).flatten
  | 0 => .nil
  | k + 1 => by
    rw [List.replicate_succ, List.replicate_succ, List.flatten_cons, List.flatten_cons]
    exact h.append (FzL.rep h k)
theorem opn_rep : OpN rRep dRep := by
  intro x y ds hd G H v u Q zx zy m k
  cases x <;> cases y <;> simp only [dRep] at hd <;> first | (cases hd; done) | skip
  rename_i xs j
  split at hd
  · rename_i hl
    obtain ⟨h1, h2, h3⟩ := of_decide_eq_true hl
    cases hd
    obtain ⟨a, vs, rfl, ha, fa⟩ := zx.lst m
    exact ⟨a, j, vs, rfl, zy.rv.int, ha, h1, h2, by rw [fa.length, sizeLine_eq]; exact h3, fun p hp => k _ p (fa.rep _) hp⟩
  · cases hd
/-- t + u -/
def gCatT (ga gb : Sl → R D) : Sl → R D := fun S => (ga S).bind fun x S1 => (gb S1).bind fun y S2 => match x, y with
  | .tup xs, .tup ys => if lineOk (xs ++ ys) then .ok (.tup (xs ++ ys)) S2 else .stuck
  | _, _ => .stuck
theorem vd_catT {ga gb : Sl → R D} (a : VD p X W ea ga) (b : VD q X W eb gb) : VD (p && q) X W (.BinOp ea .Add eb pos) (gCatT ga gb) := by
  obtain ⟨ta, a1, a2⟩ := a
  obtain ⟨tb, b1, b2⟩ := b
  refine ⟨_, pe_op op_catA a1 b1, fun σ0 σ G H S F Q r hw => ?_⟩
  refine VD.then (t := ta) a2 r hw fun x S1 v G1 H1 F1 r1 g1 z1 hw1 => ?_
  refine VD.then (t := tb) b2 r1 hw1 fun y S2 u G2 H2 F2 r2 g2 z2 hw2 => ?_
  have z1' := z1.inc g2.up
  cases x <;> cases y <;> first | exact hw2.elim | skip
  rename_i xs ys
  simp only at hw2
  split at hw2
  · rename_i hl
    have zx := z1'
    have zy := z2
    simp only [Fz] at zx zy
    obtain ⟨a, vs, rfl, ha, fa⟩ := zx
    obtain ⟨b, us, rfl, hb, fb⟩ := zy
    have hl := lineOk.le hl
    rw [List.length_append] at hl
    refine ⟨a, b, vs, us, rfl, rfl, .of (r2.inc _ _ ha), .of (r2.inc _ _ hb), by rw [fa.length, fb.length]; exact hl, fun e => ?_, fun _ e => ?_, fun _ _ p hp => ?_⟩
    · have : xs = [] := List.length_eq_zero_iff.mp (by rw [← fa.length, e]; rfl)
      subst this
      exact hw2 _ G2 H2 F2 r2 (g1.trans g2) z2
    · have : ys = [] := List.length_eq_zero_iff.mp (by rw [← fb.length, e]; rfl)
      subst this
      rw [List.append_nil] at hw2
      exact hw2 _ G2 H2 F2 r2 (g1.trans g2) z1'
    · exact new_tup (S' := S2) r2 (g1.trans g2) (fa.append fb) hw2 p hp
  · exact hw2.elim
/-- s + t, texts -/
def dCatS : D → D → Option D
  | .str a, .str b => if a.length + b.length ≤ 16777216 then some (.str (a ++ b)) else none
  | _, _ => none
theorem opd_catS : OpD (fun x y H Q => ∃ i j, x = .str i ∧ y = .str j ∧ i.length + j.length ≤ sizeLine ∧ Q (.str (i ++ j)) H) dCatS := by
  intro x y d hd G H v u Q zx zy m k
  cases x <;> cases y <;> simp only [dCatS] at hd <;> first | (cases hd; done) | skip
  split at hd
  · cases hd
    simp only [Fz] at zx zy
    exact ⟨_, _, zx, zy, by rw [sizeLine_eq]; assumption, k _ rfl⟩
  · cases hd

/-! ### list(x), tuple(x), sorted(x) -/
def dList : D → Option (List D)
  | .lst xs => some xs
  | .tup xs => some xs
  | _ => none
theorem Rv1.tup {ds : List D} {v : V} (h : Rv1 G H (.tup ds) v) (m : Inc G H) : ∃ a vs, v = .ref a ∧ H a = some (.tup vs) ∧ FzL G ds vs := h.rv.tup m
theorem cn_list : CallN (fun xs H Q => ∃ p ys, xs = [.ref p] ∧ (SqL X.K H p ys ∨ SqT X.K H p ys) ∧ ∀ l, H l = none → Q (.ref l) (upd H l (.lst ys))) dList := by
  intro x ds hd G H v Q z m k
  cases x <;> simp only [dList] at hd <;> first | (cases hd; done) | skip
  · cases hd
    obtain ⟨a, vs, rfl, ha, fa⟩ := z.lst m
    exact ⟨a, vs, rfl, .inl (.of ha), fun l hl => k vs l fa hl⟩
  · cases hd
    obtain ⟨a, vs, rfl, ha, fa⟩ := z.tup m
    exact ⟨a, vs, rfl, .inr (.of ha), fun l hl => k vs l fa hl⟩
/-- tuple(x) -/
def gTupOf (g : Sl → R Vl) : Sl → R D := fun S => (g S).bind fun x S1 => match x.d with
  | .lst ds => if x.lev then .ok (.tup ds) S1 else .stuck
  | .tup ds => .ok (.tup ds) S1
  | _ => .stuck
theorem vd_tupOf {pn : Pos} {g : Sl → R Vl} (ha : VE p X W e g) (hg : Gl X "tuple" := by rfl) (hm : X.mg "tuple" = none)
    (he : starEach [e] X.env = (false, eval e X.env) :: starEach [] X.env := by rfl) (hpl : (backTo pos (starEach [] X.env)).any (·.1) = false := by rfl) : VD p X W (.Call (.Name "tuple" pn) [e] [] pos) (gTupOf g) := by
  obtain ⟨t, a1, a2⟩ := ha
  refine ⟨_, pe_callTy call_tuple_of hg hm (by decide +kernel) (pa_cons a1 pa_nil he) (by decide) (by decide) he hpl, fun σ0 σ G H S F Q r' hw => ?_⟩
  refine VE.then (t := t) a2 r' hw fun y S1 v fp G1 H1 F1 r1 g1 z1 hw1 => ?_
  obtain ⟨yb, yk, yd⟩ := y
  cases yd <;> first | exact hw1.elim | skip
  · rename_i ds
    simp only at hw1
    split at hw1
    · rename_i hl
      obtain ⟨a, vs, rfl, ha, fa⟩ := (z1.rv1 hl).lst r1.inc
      exact ⟨a, vs, rfl, .inl ⟨.of ha, fun l hl => new_tup (S' := S1) r1 g1 fa hw1 l hl⟩⟩
    · exact hw1.elim
  · rename_i ds
    have zz := (z1.ow.atom rfl).1
    obtain ⟨a, vs, rfl, ha, fa⟩ := z1.rv.tup r1.inc
    exact ⟨a, vs, rfl, .inr ⟨.of ha, hw1 _ G1 H1 F1 r1 g1 zz⟩⟩
/-- sorted(x): data that are alike, in one order -/
def rSortedD (K : PySem.W.Frag) : List V → Hp → VK → Prop := fun vs H Q => ∃ (a : Addr) (ps : List (V × D)), vs = [.ref a] ∧ H a = some (.lst (ps.map (·.1))) ∧ (∀ b ∈ ps, Dp K H b.1 b.2.py) ∧
  PySem.W.AllAlike (ps.map fun b => b.2.py) ∧ PySem.W.Sortable (ps.map fun b => b.2.py) ∧ (∀ b ∈ ps, b.2.py.depth ≤ 60) ∧
  ∀ c, H c = none → Q (.ref c) (upd H c (.lst ((ps.mergeSort (PySem.W.dataLe false fun b => b.2.py)).map (·.1))))
theorem each_of_vals {P : Value → V × D → Prop} : ∀ {ps : List (V × D)} {us : List Value}, Vals (ps.map (·.1)) us → (∀ b ∈ ps, ∀ u, RelV b.1 u → P u b) → PySem.W.EachIs P us ps
  | [], _, .nil, _ => .nil
  | b :: ps, _, .cons r t, h => .cons (h b (by simp) _ r) (each_of_vals t fun b hb => h b (List.mem_cons_of_mem _ hb))
theorem vals_of_each : ∀ {ps : List (V × D)} {us : List Value}, PySem.W.EachIs (fun u (b : V × D) => RelV b.1 u) us ps → Vals (ps.map (·.1)) us
  | [], _, .nil => .nil
  | b :: ps, _ :: _, .cons r t => .cons r (vals_of_each t)
theorem cr_sortedD (hu : X.A.units + 64 < cLine) : CallR X (.builtin "sorted") (rSortedD X.K) := by
  intro pins s σ H vs us Q I r h
  obtain ⟨a, ps, rfl, ha, hd, al, so, dp, q⟩ := h
  obtain ⟨its, rv, hl, hz⟩ := I.list (.of ha)
  rw [Vals.ref1 r]
  rw [List.length_map] at hz
  refine PySem.W.sorted_data (R := fun u b => RelV b.1 u) (enc := fun b : V × D => b.2.py) hl.isList (each_of_vals rv fun b _ u h => h) (each_of_vals rv fun b hb u h => Dp.reads I _ _ u (hd b hb) h) al so hz (fun b hb => by have := dp b hb; omega) fun out h1 h2 => ?_
  obtain ⟨ep, he'⟩ := PyProof.Rows.sortedAll_at s.heap its out.toArray
  have hlen : ((ps.mergeSort (PySem.W.dataLe false fun b => b.2.py)).map (·.1)).length ≤ sizeLine := by rw [List.length_map, (List.mergeSort_perm _ _).length_eq]; exact hz
  exact ⟨.ref _, upd H (s.heap.objs.size + 1) (.lst _), I.laid (t' := s.toks) (fun _ _ => PyProof.Rows.sortedAll_old) (Nat.le_succ _) ⟨hlen, out, ep, vals_of_each h2, by simpa using he'⟩, rfl, q _ (I.hok.fresh (Nat.le_succ _))⟩
end
end VL

set_option Elab.async false
set_option linter.all false
set_option autoImplicit false
set_option maxRecDepth 100000
namespace VL
open PySem PySem.Spec L2
open PyProof.Rows hiding St

section
variable {X : Cx} {W : WX} {p q : Bool} {e ea eb : Expr} {es : List Expr} {pos : Pos}
variable {σ0 σ : St} {G H G1 H1 G2 H2 : Hp} {F F1 F2 : Fps} {S S1 S2 : Sl}

/-! ### one transformer for all contexts -/
def tV (p : Bool) (W : WX) (g : Sl → R Vl) : TE := fun σ H Q => ∃ σ0 G S F, SR σ0 G H σ S F ∧ (g S).wp (OkV p σ0 σ G H S F Q) (OkE σ0 σ G H S F W)
def tVD (p : Bool) (W : WX) (g : Sl → R D) : TE := fun σ H Q => ∃ σ0 G S F, SR σ0 G H σ S F ∧ (g S).wp (OkD p σ0 σ G H S F Q) (OkE σ0 σ G H S F W)
def tVT (p : Bool) (W : WX) (g : Sl → R Bool) : TT := fun σ H Q => ∃ σ0 G S F, SR σ0 G H σ S F ∧ (g S).wp (OkB p σ0 σ G H S F Q) (OkE σ0 σ G H S F W)
theorem VE.can {g : Sl → R Vl} (h : VE p X W e g) : PE X e (tV p W g) := by
  obtain ⟨t, h1, h2⟩ := h
  exact ⟨fun pins s σ H Q I ⟨σ0, G, S, F, r, hw⟩ => h1.run pins s σ H Q I (h2 σ0 σ G H S F Q r hw)⟩
theorem VD.can {g : Sl → R D} (h : VD p X W e g) : PE X e (tVD p W g) := by
  obtain ⟨t, h1, h2⟩ := h
  exact ⟨fun pins s σ H Q I ⟨σ0, G, S, F, r, hw⟩ => h1.run pins s σ H Q I (h2 σ0 σ G H S F Q r hw)⟩
theorem VT.can {g : Sl → R Bool} (h : VT p X W e g) : PT X e (tVT p W g) := by
  obtain ⟨t, h1, h2⟩ := h
  exact ⟨fun pins s σ H Q I ⟨σ0, G, S, F, r, hw⟩ => h1.run pins s σ H Q I (h2 σ0 σ G H S F Q r hw)⟩
theorem VT.weak {g : Sl → R Bool} (h : VT p X W e g) (hq : q = true → p = true) : VT q X W e g := by
  obtain ⟨t, h1, h2⟩ := h
  exact ⟨t, h1, fun σ0 σ G H S F Q r hw => h2 σ0 σ G H S F Q r (R.wp_mono hw (fun x S' hx G' H' F' r' g' => hx G' H' F' r' (g'.weak hq)) fun c w S' h => h)⟩

/-! ### targets -/
/-- what an assignment has done to the slots vs -/
structure Asg (σ σ' : St) (F F' : Fps) (vs : List Nat) : Prop where
  len : σ'.length = σ.length
  σ : ∀ j, j ∉ vs → σ'[j]? = σ[j]?
  F : ∀ j, F' j = F j ∨ (j ∈ vs ∧ F' j = [])
theorem Asg.refl {vs : List Nat} : Asg σ σ F F vs := ⟨rfl, fun _ _ => rfl, fun _ => .inl rfl⟩
theorem Asg.trans {σ1 σ2 : St} {vs us : List Nat} (a : Asg σ σ1 F F1 vs) (b : Asg σ1 σ2 F1 F2 us) : Asg σ σ2 F F2 (vs ++ us) where
  len := b.len.trans a.len
  σ := fun j hj => by
    simp only [List.mem_append, not_or] at hj
    rw [b.σ j hj.2, a.σ j hj.1]
  F := fun j => by
    rcases b.F j with h | ⟨h1, h2⟩
    · rw [h]
      rcases a.F j with h | ⟨h1, h2⟩
      · exact .inl h
      · exact .inr ⟨List.mem_append_left _ h1, h2⟩
    · exact .inr ⟨List.mem_append_right _ h1, h2⟩
def VG (X : Cx) (tg : Expr) (vs : List Nat) (ga : D → Sl → Option Sl) : Prop := ∃ g : TG, PG X tg g ∧ ∀ σ0 σ G H S F d x S' (Q : St → Hp → Prop), SR σ0 G H σ S F → Fz G d x → ga d S = some S' → (∀ σ' F', SR σ0 G H σ' S' F' → Asg σ σ' F F' vs → Q σ' H) → g x σ H Q
def VGs (X : Cx) (tgs : List Expr) (vs : List Nat) (ga : List D → Sl → Option Sl) : Prop := ∃ g : TGs, PGs X tgs g ∧ ∀ σ0 σ G H S F ds xs S' (Q : St → Hp → Prop), SR σ0 G H σ S F → FzL G ds xs → ga ds S = some S' → (∀ σ' F', SR σ0 G H σ' S' F' → Asg σ σ' F F' vs → Q σ' H) → g xs σ H Q
def gaName (i : Nat) : D → Sl → Option Sl := fun d S => match S[i]? with
  | some ⟨false, _⟩ => some (S.put i (some (0, d)))
  | _ => none
theorem SR.name {i : Nat} {d : D} {x : V} {S' : Sl} (r : SR σ0 G H σ S F) (z : Fz G d x) (h : gaName i d S = some S') : SR σ0 G H (σ.set i (some x)) S' (fpPut F i []) ∧ Asg σ (σ.set i (some x)) F (fpPut F i []) [i] := by
  unfold gaName at h
  cases hc : S[i]? with
  | none => rw [hc] at h; cases h
  | some c =>
    obtain ⟨pin, val⟩ := c
    rw [hc] at h
    cases pin with
    | true => cases h
    | false =>
      cases h
      have hi : i < σ.length := by rw [r.len]; exact (List.getElem?_eq_some_iff.mp hc).1
      refine ⟨r.put hc (by simp) (fun j hj => List.getElem?_set_ne (Ne.symm hj)) (fun h => nomatch h) (fun k d' e => ?_) (fun _ => rfl) .nil (fun _ _ a h => by simp at h) fun a h => by simp at h, by simp, fun j hj => ?_, fun j => ?_⟩
      · cases e; exact ⟨x, by simp [List.getElem?_set_self hi], z, rfl⟩
      · simp at hj; exact List.getElem?_set_ne (Ne.symm hj)
      · by_cases hj : j = i
        · exact .inr ⟨by simp [hj], by simp [fpPut, hj]⟩
        · exact .inl (by simp [fpPut, hj])
theorem vg_name (i : Nat) {x : Str} (hN : X.N.Nodup) (hi : X.N[i]? = some x := by rfl) (hx : Loc X.env.scope x := by first | exact Or.inl rfl | exact Or.inr rfl) (hf : X.fn x = true ∨ X.env.scope.names.lookup x = some .local := by first | exact .inr rfl | exact .inl rfl) : VG X (.Name x pos) [i] (gaName i) :=
  ⟨_, pg_name hN hi hx hf, fun σ0 σ G H S F d x S' Q r z h k => let ⟨r', a⟩ := r.name z h; k _ _ r' a⟩
def gaNil : List D → Sl → Option Sl := fun ds S => match ds with
  | [] => some S
  | _ => none
def gaCons (a : D → Sl → Option Sl) (b : List D → Sl → Option Sl) : List D → Sl → Option Sl := fun ds S => match ds with
  | d :: r => (match a d S with
    | some S1 => b r S1
    | none => none)
  | [] => none
theorem vgs_nil : VGs X [] [] gaNil := ⟨_, pgs_nil, fun σ0 σ G H S F ds xs S' Q r z h k => by
  cases ds with
  | cons d ds => cases h
  | nil =>
    cases h
    simp only [FzL] at z
    exact ⟨z, k σ F r .refl⟩⟩
theorem vgs_cons {vs us : List Nat} {ga : D → Sl → Option Sl} {gb : List D → Sl → Option Sl} (a : VG X e vs ga) (b : VGs X es us gb) (hs : (assignEach (e :: es) X.env).map (·.2) = assign e X.env :: (assignEach es X.env).map (·.2) := by rfl) : VGs X (e :: es) (vs ++ us) (gaCons ga gb) := by
  obtain ⟨g, a1, a2⟩ := a
  obtain ⟨u, b1, b2⟩ := b
  refine ⟨_, pgs_cons a1 b1 hs, fun σ0 σ G H S F ds xs S' Q r z h k => ?_⟩
  cases ds with
  | nil => cases h
  | cons d ds =>
    simp only [gaCons] at h
    cases h1 : ga d S with
    | none => rw [h1] at h; cases h
    | some S1 =>
      rw [h1] at h
      simp only [FzL] at z
      obtain ⟨x, rr, rfl, z1, z2⟩ := z
      exact ⟨x, rr, rfl, a2 σ0 σ G H S F d x S1 _ r z1 h1 fun σ1 F1 r1 k1 => b2 σ0 σ1 G H S1 F1 ds rr S' _ r1 z2 h fun σ2 F2 r2 k2 => k σ2 F2 r2 (k1.trans k2)⟩
def gaTup (n : Nat) (ga : List D → Sl → Option Sl) : D → Sl → Option Sl := fun d S => match d with
  | .tup ds => if ds.length = n then ga ds S else none
  | _ => none
theorem vg_tup {vs : List Nat} {ga : List D → Sl → Option Sl} {k n : Nat} (hc : X.calm = true) (a : VGs X es vs ga) (hn : (assignEach es X.env).length = n := by rfl) (hst : (assignEach es X.env).findIdx? (·.1) = none := by rfl) : VG X (.Tuple es k pos) vs (gaTup n ga) := by
  obtain ⟨g, a1, a2⟩ := a
  refine ⟨_, pg_tup hc a1 hn hst, fun σ0 σ G H S F d x S' Q r z h k => ?_⟩
  cases d <;> simp only [gaTup] at h <;> first | (cases h; done) | skip
  rename_i ds
  split at h
  · rename_i hl
    simp only [Fz] at z
    obtain ⟨a, xs, rfl, rd, fz⟩ := z
    exact ⟨a, xs, rfl, .of (r.inc _ _ rd), by rw [fz.length, hl], a2 σ0 σ G H S F ds xs S' Q r fz h k⟩
  · cases h

/-! ### what is walked through -/
def Fy (G H : Hp) (d : D) (x : V) (H' : Hp) : Prop := (H' = H ∧ Fz G d x) ∨ ∃ T ds vs, d = .tup ds ∧ x = .ref T ∧ H T = none ∧ H' = upd H T (.tup vs) ∧ FzL G ds vs
def ItOk (b : Bool) (J : It) (G H : Hp) (xs : List D) : Prop := ∀ G' H', Inc G G' → Inc G' H' → (∀ a us, H' a = some (.tup us) → G' a = some (.tup us)) → (b = true → Inc H H') → ∀ i, (∀ d, xs[i]? = some d → J.go i H' ∧ ∀ x H'', J.yld i H' x H'' → Fy G' H' d x H'') ∧ (xs.length ≤ i → J.stop i H')
def VI (p b : Bool) (X : Cx) (W : WX) (tg e : Expr) (g : Sl → R (List D)) : Prop := ∃ wi : TI, PI X tg e wi ∧ ∀ σ0 σ G H S F (Q : It → Hp → Prop), SR σ0 G H σ S F →
  (g S).wp (fun xs S' => ∀ J G' H' F', SR σ0 G' H' σ S' F' → Gr p G H F S G' H' F' S' → ItOk b J G' H' xs → Q J H') (OkE σ0 σ G H S F W) → wi σ H Q
theorem fy_step {d : D} {x : V} {H' : Hp} (r : SR σ0 G H σ S F) (y : Fy G H d x H') : ∃ G', SR σ0 G' H' σ S F ∧ Gr true G H F S G' H' F S ∧ Fz G' d x := by
  rcases y with ⟨rfl, z⟩ | ⟨T, ds, vs, rfl, rfl, hT, rfl, z⟩
  · exact ⟨G, r, .refl r, z⟩
  · have := new_tup (σ0 := σ0) (σ := σ) (G := G) (H := H) (S := S) (F := F) (p := true) (S' := S) (Q := fun v H' => ∃ G', SR σ0 G' H' σ S F ∧ Gr true G H F S G' H' F S ∧ Fz G' (.tup ds) v) r (.refl r) z
      (fun v G' H' F' r' g' z' => by
        obtain ⟨_, e, _, _⟩ := g'.pure rfl
        subst e
        exact ⟨G', r', g', z'⟩) T hT
    exact this
theorem pi_or {tg : Expr} {wi wj : TI} (a : PI X tg e wi) (b : PI X tg e wj) : PI X tg e (fun σ H R => wi σ H R ∨ wj σ H R) :=
  ⟨fun pins s σ H R I h => h.elim (a.run pins s σ H R I) (b.run pins s σ H R I)⟩
/-- a list or a tuple -/
def itemsV (x : Vl) : Option (List D) := match x.d with
  | .lst ds => if x.lev then some ds else none
  | .tup ds => some ds
  | _ => none
def gSeq (b : Bool) (g : Sl → R Vl) : Sl → R (List D) := fun S => (g S).bind fun x S1 => if b || !x.b then (match itemsV x with | some ds => .ok ds S1 | none => .stuck) else .stuck
/-- the value at an owned, not borrowed list is frozen when a loop starts -/
theorem itl_ok {b : Bool} {K : PySem.W.Frag} {a : Addr} {vs : List V} {ds : List D} (h : G a = some (.lst vs) ∨ (b = true ∧ H a = some (.lst vs))) (z : FzL G ds vs) : ItOk b (Itl K a) G H ds := fun G' H' i1 i2 _ i3 i => by
  have ha : H' a = some (.lst vs) := by
    rcases h with h | ⟨hb, h⟩
    · exact i2 _ _ (i1 _ _ h)
    · exact i3 hb _ _ h
  refine ⟨fun d hd => ?_, fun hi => ⟨vs, .of ha, by rw [z.length]; exact hi⟩⟩
  obtain ⟨v, e1, e2⟩ := z.get hd
  refine ⟨⟨vs, v, .of ha, e1⟩, fun x H'' ⟨e, y⟩ => .inl ⟨e, ?_⟩⟩
  have := y vs (.of ha)
  rw [e1] at this; cases this
  exact e2.inc i1
theorem itt_ok {b : Bool} {K : PySem.W.Frag} {a : Addr} {vs : List V} {ds : List D} (h : G a = some (.tup vs)) (z : FzL G ds vs) : ItOk b (Itt K a) G H ds := fun G' H' i1 i2 _ i3 i => by
  have ha : H' a = some (.tup vs) := i2 _ _ (i1 _ _ h)
  refine ⟨fun d hd => ?_, fun hi => ⟨vs, .of ha, by rw [z.length]; exact hi⟩⟩
  obtain ⟨v, e1, e2⟩ := z.get hd
  refine ⟨⟨vs, v, .of ha, e1⟩, fun x H'' ⟨e, y⟩ => .inl ⟨e, ?_⟩⟩
  have := y vs (.of ha)
  rw [e1] at this; cases this
  exact e2.inc i1
theorem vi_seq (b : Bool) {tg : Expr} {g : Sl → R Vl} (h : VE p X W e g) : VI p b X W tg e (gSeq b g) := by
  obtain ⟨t, h1, h2⟩ := h
  refine ⟨_, pi_or (pi_list h1) (pi_tup h1), fun σ0 σ G H S F Q r hw => ?_⟩
  unfold gSeq at hw
  cases hg : g S with
  | stuck => rw [hg] at hw; exact hw.elim
  | err c w S' =>
    rw [hg] at hw
    refine .inl (h2 σ0 σ G H S F _ r ?_)
    rw [hg]; exact hw
  | ok x S' =>
    rw [hg] at hw
    simp only [R.bind] at hw
    split at hw
    · rename_i hb
      have run : ∀ {T : VK}, (OkV p σ0 σ G H S F T x S') → t σ H T := fun {T} k => h2 σ0 σ G H S F T r (by rw [hg]; exact k)
      obtain ⟨xb, xk, xd⟩ := x
      cases hi : itemsV ⟨xb, xk, xd⟩ with
      | none => rw [hi] at hw; exact hw.elim
      | some ds =>
        rw [hi] at hw
        unfold itemsV at hi
        cases xd <;> first | (simp only at hi; cases hi; done) | skip
        · simp only at hi
          split at hi
          · rename_i hl
            cases hi
            refine .inl (run fun v fp G' H' F' r' g' z' => ?_)
            cases xb with
            | true =>
              have hb' : b = true := by simpa using hb
              obtain ⟨a, vs, rfl, ha, fa⟩ := (z'.rv1 hl).lst r'.inc
              exact ⟨a, rfl, ⟨vs, .of ha⟩, hw (Itl X.K a) G' H' F' r' g' (itl_ok (.inr ⟨hb', ha⟩) fa)⟩
            | false =>
              obtain ⟨G2, r2, g2, z2⟩ := z'.freeze r' g' rfl
              obtain ⟨a, vs, rfl, ha, fa⟩ := z2.rv1.lst r2.inc
              simp only [Fz] at z2
              obtain ⟨a', vs', e, rd, fz⟩ := z2
              cases e
              exact ⟨a, rfl, ⟨vs, .of ha⟩, hw (Itl X.K a) G2 H' F' r2 g2 (itl_ok (.inl rd) fz)⟩
          · cases hi
        · cases hi
          refine .inr (run fun v fp G' H' F' r' g' z' => ?_)
          have zz := (z'.ow.atom rfl).1
          simp only [Fz] at zz
          obtain ⟨a, vs, rfl, ha, fa⟩ := zz
          exact ⟨a, rfl, ⟨vs, .of (r'.inc _ _ ha)⟩, hw (Itt X.K a) G' H' F' r' g' (itt_ok ha fa)⟩
    · exact hw.elim
end
end VL

set_option Elab.async false
set_option linter.all false
set_option autoImplicit false
set_option maxRecDepth 100000
namespace VL
open PySem PySem.Spec L2
open PyProof.Rows hiding St

/-! ## list comprehensions -/
def wipeFrom (vs : List Nat) : Nat → Sl → Sl
  | _, [] => []
  | i, c :: cs => (if vs.contains i then ⟨c.pin, none⟩ else c) :: wipeFrom vs (i + 1) cs
def Sl.wipe (S : Sl) (vs : List Nat) : Sl := wipeFrom vs 0 S
def restFrom (vs : List Nat) : Nat → Sl → Sl → Sl
  | i, c :: cs, d :: ds => (if vs.contains i then d else c) :: restFrom vs (i + 1) cs ds
  | _, _, _ => []
def wipeOk (vs : List Nat) (S : Sl) : Bool := vs.all fun v => match S[v]? with
  | some ⟨false, none⟩ => true
  | some ⟨false, some (0, _)⟩ => true
  | _ => false
theorem wipeFrom_get (vs : List Nat) : ∀ (S : Sl) (i j : Nat), (wipeFrom vs i S)[j]? = S[j]?.map fun c => if vs.contains (i + j) then ⟨c.pin, none⟩ else c
  | [], i, j => by simp [wipeFrom]
  | c :: cs, i, 0 => by simp [wipeFrom]
  | c :: cs, i, j + 1 => by
    simp only [wipeFrom, List.getElem?_cons_succ]
    rw [wipeFrom_get vs cs (i + 1) j, show i + 1 + j = i + (j + 1) by omega]
theorem wipe_get (vs : List Nat) (S : Sl) (j : Nat) : (S.wipe vs)[j]? = S[j]?.map fun c => if vs.contains j then ⟨c.pin, none⟩ else c := by
  unfold Sl.wipe
  rw [wipeFrom_get, Nat.zero_add]
theorem wipeFrom_len (vs : List Nat) : ∀ (S : Sl) (i : Nat), (wipeFrom vs i S).length = S.length
  | [], i => rfl
  | c :: cs, i => by simp [wipeFrom, wipeFrom_len vs cs (i + 1)]
theorem wipe_len (vs : List Nat) (S : Sl) : (S.wipe vs).length = S.length := wipeFrom_len vs S 0
theorem restFrom_get (vs : List Nat) : ∀ (S T : Sl) (i j : Nat), S.length = T.length → (restFrom vs i S T)[j]? = if vs.contains (i + j) then T[j]? else S[j]?
  | [], [], i, j, _ => by simp [restFrom]
  | c :: cs, d :: ds, i, 0, _ => by simp only [restFrom, List.getElem?_cons_zero, Nat.add_zero]; split <;> rfl
  | c :: cs, d :: ds, i, j + 1, h => by
    simp only [restFrom, List.getElem?_cons_succ]
    rw [restFrom_get vs cs ds (i + 1) j (by simpa using h), show i + 1 + j = i + (j + 1) by omega]
theorem restFrom_len (vs : List Nat) : ∀ (S T : Sl) (i : Nat), S.length = T.length → (restFrom vs i S T).length = S.length
  | [], [], i, _ => rfl
  | c :: cs, d :: ds, i, h => by simp [restFrom, restFrom_len vs cs ds (i + 1) (by simpa using h)]
theorem hwipe_ne {σ : St} {j : Nat} : ∀ {vs : List Nat}, j ∉ vs → (L2.wipe σ vs)[j]? = σ[j]?
  | [], _ => rfl
  | v :: vs, h => by
    simp only [List.mem_cons, not_or] at h
    unfold L2.wipe
    rw [List.getElem?_set_ne (Ne.symm h.1)]
    exact hwipe_ne h.2
theorem hwipe_in {σ : St} {j : Nat} (hj : j < σ.length) : ∀ {vs : List Nat}, j ∈ vs → (L2.wipe σ vs)[j]? = some none
  | v :: vs, h => by
    unfold L2.wipe
    by_cases e : v = j
    · subst e
      rw [List.getElem?_set_self (by rw [L2.wipe_length]; exact hj)]
    · rw [List.getElem?_set_ne e]
      exact hwipe_in hj (by simpa [Ne.symm e] using h)
theorem hwipe_ext {σ σ' : St} {vs : List Nat} (hl : σ'.length = σ.length) (h : ∀ j, j ∉ vs → σ'[j]? = σ[j]?) : L2.wipe σ' vs = L2.wipe σ vs := by
  apply List.ext_getElem?
  intro j
  by_cases hj : j ∈ vs
  · by_cases hk : j < σ.length
    · rw [hwipe_in (by omega) hj, hwipe_in hk hj]
    · rw [List.getElem?_eq_none (by rw [L2.wipe_length]; omega), List.getElem?_eq_none (by rw [L2.wipe_length]; omega)]
  · rw [hwipe_ne hj, hwipe_ne hj, h j hj]

def R.noerr {α : Type} : R α → R α
  | .err _ _ _ => .stuck
  | r => r
theorem R.wp_noerr {α β : Type} {r : R α} {f : α → Sl → R β} {ok : β → Sl → Prop} {er er' : Addr → Option (Str × D) → Sl → Prop} (h : (r.noerr.bind f).wp ok er) : r.wp (fun a s => (f a s).wp ok er) er' := by
  cases r with
  | err c w s => exact False.elim h
  | ok a s => exact h
  | stuck => exact h

section
variable {X : Cx} {W : WX} {p q q' : Bool} {e ea eb : Expr} {es : List Expr} {pos : Pos}
variable {σ0 σ : St} {G H G1 H1 G2 H2 : Hp} {F F1 F2 : Fps} {S S1 S2 : Sl}
theorem SR.wipe {vs : List Nat} (r : SR σ0 G H σ S F) (h : wipeOk vs S = true) : SR σ0 G H (L2.wipe σ vs) (S.wipe vs) F ∧ ∀ j ∈ vs, F j = [] := by
  have em : ∀ j ∈ vs, (∀ c, S[j]? = some c → c.pin = false) ∧ F j = [] := fun j hj => by
    have := List.all_eq_true.mp h j hj
    cases hc : S[j]? with
    | none => rw [hc] at this; cases this
    | some c =>
      obtain ⟨pin, val⟩ := c
      obtain ⟨h1, h2, h3⟩ := r.row j _ hc
      rw [hc] at this
      cases pin with
      | true => simp at this
      | false =>
        refine ⟨fun c e => by cases e; rfl, ?_⟩
        cases val with
        | none => exact h3 rfl
        | some kd =>
          obtain ⟨k, d⟩ := kd
          cases k with
          | zero => obtain ⟨v, _, _, z⟩ := h2 0 d rfl; exact z
          | succ k => simp at this
  refine ⟨⟨by rw [L2.wipe_length, wipe_len]; exact r.len, fun i c hc => ?_, fun i hi => r.out i (by rw [wipe_len] at hi; exact hi), r.nd, r.dj, r.fs, r.inc, r.tp⟩, fun j hj => (em j hj).2⟩
  rw [wipe_get] at hc
  cases hs : S[i]? with
  | none => rw [hs] at hc; cases hc
  | some c0 =>
    rw [hs] at hc
    simp only [Option.map_some] at hc
    by_cases hi : i ∈ vs
    · rw [if_pos (by simpa using hi)] at hc
      cases hc
      exact ⟨(fun z => by rw [(em i hi).1 c0 hs] at z; cases z), (fun k d z => nomatch z), fun _ => (em i hi).2⟩
    · rw [if_neg (by simpa using hi)] at hc
      cases hc
      rw [hwipe_ne hi]
      exact r.row i _ hs
theorem SR.unwipe {vs : List Nat} {T : Sl} {F' : Fps} (r : SR σ0 G H σ S F) (h : wipeOk vs S = true) (r' : SR σ0 G1 H1 (L2.wipe σ vs) T F') (hF : ∀ j ∈ vs, F' j = []) (hi : Inc G G1) : SR σ0 G1 H1 σ (restFrom vs 0 T S) F' := by
  have hl : T.length = S.length := by rw [← r'.len, L2.wipe_length]; exact r.len
  refine ⟨by rw [restFrom_len _ _ _ _ hl, hl]; exact r.len, fun i c hc => ?_, fun i h' => r'.out i (by rw [restFrom_len _ _ _ _ hl] at h'; exact h'), r'.nd, r'.dj, r'.fs, r'.inc, r'.tp⟩
  rw [restFrom_get _ _ _ _ _ hl, Nat.zero_add] at hc
  by_cases hv : i ∈ vs
  · rw [if_pos (by simpa using hv)] at hc
    obtain ⟨h1, h2, h3⟩ := r.row i c hc
    have e := hF i hv
    have := List.all_eq_true.mp h i hv
    rw [hc] at this
    refine ⟨h1, fun k d z => ?_, fun _ => e⟩
    obtain ⟨v, e1, e2⟩ := h2 k d z
    obtain ⟨pin, val⟩ := c
    simp only at z
    subst z
    cases pin <;> cases k <;> first | (simp at this; done) | skip
    exact ⟨v, e1, e2.1.inc hi, e⟩
  · rw [if_neg (by simpa using hv)] at hc
    have := r'.row i c hc
    rw [hwipe_ne hv] at this
    exact this
theorem SR.upd_out {a : Addr} {o : HO} (r : SR σ0 G H σ S F) (hf : ∀ i, a ∉ F i) (hg : G a = none) (ho : ∀ us, o ≠ .tup us := by intro _ z; cases z) : SR σ0 G (upd H a o) σ S F :=
  ⟨r.len, fun i c hc => by
    obtain ⟨h1, h2, h3⟩ := r.row i c hc
    refine ⟨h1, fun k d e => ?_, h3⟩
    obtain ⟨v, e1, e2⟩ := h2 k d e
    exact ⟨v, e1, e2.keep (Inc.refl _) fun b hb o' ho => by rw [upd_ne fun e : b = a => hf i (e ▸ hb)]; exact ho⟩, r.out, r.nd, r.dj, r.fs, fun b o' ho => by
    rw [upd_ne fun e : b = a => by subst e; rw [hg] at ho; cases ho]
    exact r.inc b o' ho, fun b us e => by
    by_cases hb : b = a
    · subst hb; rw [upd_same] at e; exact absurd (Option.some.inj e) (ho us)
    · rw [upd_ne hb] at e; exact r.tp b us e⟩
theorem Gr.updD {a : Addr} {o : HO} (g : Gr p G H F S G1 H1 F1 S1) (h : H a = none) : Gr p G H F S G1 (upd H1 a o) F1 S1 :=
  ⟨g.up, g.new, fun b u hb hf => by rw [upd_ne (ne_of_none hb h)]; exact g.fr b u hb hf, g.src, fun hp => let ⟨a1, a2, a3, a4⟩ := g.pure hp; ⟨a1, a2, fun b u hb => by rw [upd_ne (ne_of_none hb h)]; exact a3 b u hb, a4⟩⟩
/-- the slots of a pure step may be told otherwise -/
theorem Gr.slots {T : Sl} (g : Gr true G H F S1 G1 H1 F1 S2) : F1 = F ∧ Gr true G H F T G1 H1 F T := by
  obtain ⟨a1, a2, a3, a4⟩ := g.pure rfl
  subst a2
  exact ⟨rfl, g.up, g.new, g.fr, g.src, fun _ => ⟨rfl, rfl, a3, a4⟩⟩
theorem Gr.anyS {T T' : Sl} (g : Gr p G H F S1 G1 H1 F1 S2) : Gr false G H F T G1 H1 F1 T' := ⟨g.up, g.new, g.fr, g.src, fun h => nomatch h⟩
/-- the state of the slots is the same in a later heap -/
theorem SR.later (r : SR σ0 G H σ S F) (g : Gr true G H F S1 G1 H1 F1 S2) (i1 : Inc G1 H1) (h : ∀ i a, a ∈ F i → G1 a = none) (ht : ∀ a us, H1 a = some (.tup us) → G1 a = some (.tup us)) : SR σ0 G1 H1 σ S F := by
  obtain ⟨a1, a2, a3, a4⟩ := g.pure rfl
  exact ⟨r.len, fun i c hc => by
    obtain ⟨h1, h2, h3⟩ := r.row i c hc
    refine ⟨h1, fun k d e => ?_, h3⟩
    obtain ⟨v, e1, e2⟩ := h2 k d e
    exact ⟨v, e1, e2.keep g.up fun b hb o' ho => a3 b o' ho⟩, r.out, r.nd, r.dj, h, i1, ht⟩

/-! ### filters -/
def VTs (p : Bool) (X : Cx) (W : WX) (ifs : List Expr) (g : Sl → R Bool) : Prop := ∃ t, PTs X ifs t ∧ ∀ σ0 σ G H S F Q, SR σ0 G H σ S F → (g S).wp (OkB p σ0 σ G H S F Q) (OkE σ0 σ G H S F W) → t σ H Q
def gYes : Sl → R Bool := fun S => .ok true S
theorem vts_nil : VTs true X W [] gYes := ⟨_, pts_nil, fun σ0 σ G H S F Q r hw => hw G H F r (.refl r)⟩
theorem vts_one {g : Sl → R Bool} (h : VT p X W e g) : VTs p X W [e] g := by
  obtain ⟨t, h1, h2⟩ := h
  exact ⟨t, pts_one h1, h2⟩
theorem VTs.can {ifs : List Expr} {g : Sl → R Bool} (h : VTs p X W ifs g) : PTs X ifs (tVT p W g) := by
  obtain ⟨t, h1, h2⟩ := h
  exact ⟨fun pins s σ H Q I ⟨σ0, G, S, F, r, hw⟩ => h1.run pins s σ H Q I (h2 σ0 σ G H S F Q r hw)⟩
def tVG (vs : List Nat) (ga : D → Sl → Option Sl) : TG := fun x σ H Q => ∃ σ0 G S F d S', SR σ0 G H σ S F ∧ Fz G d x ∧ ga d S = some S' ∧ ∀ σ' F', SR σ0 G H σ' S' F' → Asg σ σ' F F' vs → Q σ' H
theorem VG.can {tg : Expr} {vs : List Nat} {ga : D → Sl → Option Sl} (h : VG X tg vs ga) : PG X tg (tVG vs ga) := by
  obtain ⟨t, h1, h2⟩ := h
  exact ⟨fun pins s σ H v u Q I rv ⟨σ0, G, S, F, d, S', r, z, hg, k⟩ => h1.run pins s σ H v u Q I rv (h2 σ0 σ G H S F d v S' Q r z hg k)⟩

/-! ### the loop -/
def loopLc (pu : Bool) (vs : List Nat) (ga : D → Sl → Option Sl) (gt : Sl → R Bool) (ge : Sl → R D) : List D → Sl → R (List D)
  | [], S => .ok [] S
  | d :: ds, S => match ga d S with
    | none => .stuck
    | some S1 => (gt S1).bind fun b S2 => if b then (ge S2).bind fun y S3 => if pu || wipeOk vs S3 then (loopLc pu vs ga gt ge ds (if pu then S else S3.wipe vs)).bind fun ys S4 => .ok (y :: ys) S4 else .stuck
      else if pu || wipeOk vs S2 then loopLc pu vs ga gt ge ds (if pu then S else S2.wipe vs) else .stuck
def gLc (pu : Bool) (vs : List Nat) (gi : Sl → R (List D)) (ga : D → Sl → Option Sl) (gt : Sl → R Bool) (ge : Sl → R D) : Sl → R Vl := fun S => (gi S).bind fun xs S1 =>
  if wipeOk vs S1 && lineOk xs then (loopLc pu vs ga gt ge xs (S1.wipe vs)).noerr.bind fun ys S2 => .ok ⟨false, 1, .lst ys⟩ (restFrom vs 0 S2 S1) else .stuck
def W0 : WX := fun _ _ _ _ => False
/-- where the loop stands -/
def LcI (pu : Bool) (vs : List Nat) (ga : D → Sl → Option Sl) (gt : Sl → R Bool) (ge : Sl → R D) (xs : List D) (σ0 σw : St) (G1 H1 : Hp) (F1 : Fps) (Sw : Sl) (C : Addr) (Fin : List D → Sl → Prop) (i : Nat) (H : Hp) : Prop :=
  ∃ acc us G F S, i ≤ xs.length ∧ SR σ0 G H σw S F ∧ Gr pu G1 H1 F1 Sw G H F S ∧ H C = some (.lst us) ∧ FzL G acc us ∧ acc.length ≤ i ∧ (∀ j, C ∉ F j) ∧ G C = none ∧ (∀ j ∈ vs, F j = []) ∧
    (loopLc pu vs ga gt ge (xs.drop i) S).wp (fun ys S' => Fin (acc ++ ys) S') (fun _ _ _ => False)
theorem lc_sem {vs vs' : List Nat} {b pu : Bool} {gi : Sl → R (List D)} {ga : D → Sl → Option Sl} {gt : Sl → R Bool} {ge : Sl → R D} {wi : TI}
    (i2 : ∀ (Q : It → Hp → Prop), (gi S).wp (fun xs S' => ∀ J G' H' F', SR σ0 G' H' σ S' F' → Gr p G H F S G' H' F' S' → ItOk b J G' H' xs → Q J H') (OkE σ0 σ G H S F W) → wi σ H Q)
    (hv : vs'.all (fun v => vs.contains v) = true) (hpu : pu = (q && q')) (hb : b = true → pu = true) {Q : VK} (r : SR σ0 G H σ S F) (hw : (gLc pu vs gi ga gt ge S).wp (OkV (p && pu) σ0 σ G H S F Q) (OkE σ0 σ G H S F W)) :
    tLc wi (tVG vs' ga) (tVT q W0 gt) (tVD q' W0 ge) vs σ H Q := by
  refine i2 _ (R.wp_mono (R.wp_bind hw) (fun xs S1 hw1 J G1 H1 F1 r1 g1 ito => ?_) fun _ _ _ h => h)
  split at hw1
  case isFalse => exact hw1.elim
  rename_i hwo
  obtain ⟨hwo, hlx⟩ := Bool.and_eq_true_iff.mp hwo
  intro C hC
  obtain ⟨rw1, rw2⟩ := r1.wipe hwo
  have hw2 : (loopLc pu vs ga gt ge xs (S1.wipe vs)).wp (fun ys S' => OkV (p && pu) σ0 σ G H S F Q ⟨false, 1, .lst ys⟩ (restFrom vs 0 S' S1)) (fun _ _ _ => False) := R.wp_noerr hw1
  generalize hFin : (fun (ys : List D) (S' : Sl) => OkV (p && pu) σ0 σ G H S F Q ⟨false, 1, .lst ys⟩ (restFrom vs 0 S' S1)) = Fin at hw2
  have gone : ∀ i, C ∉ F1 i := fun i => r1.notF hC i
  refine ⟨fun i m H => m = xs.length - i ∧ LcI pu vs ga gt ge xs σ0 (L2.wipe σ vs) G1 H1 F1 (S1.wipe vs) C Fin i H, ⟨xs.length, rfl, [], [], G1, F1, S1.wipe vs, Nat.zero_le _, rw1.new hC, (Gr.refl rw1).updD hC, upd_same, .nil, Nat.le_refl _, gone, r1.gNone hC, rw2, by simpa using hw2⟩, ?_⟩
  rintro i m H' ⟨rfl, acc, us, G', F', S', hi, r', g', hHC, fz, hal, hCF, hCG, hFv, hl⟩
  have it := ito G' H' g'.up r'.inc r'.tp (fun hb' => (g'.pure (hb hb')).2.2.1) i
  by_cases hlt : i < xs.length
  · -- a turn
    obtain ⟨d, hd⟩ : ∃ d, xs[i]? = some d := ⟨xs[i], by simp [hlt]⟩
    have hdr : xs.drop i = d :: xs.drop (i + 1) := by
      rw [List.drop_eq_getElem_cons hlt]
      rw [List.getElem?_eq_getElem hlt] at hd
      cases hd; rfl
    rw [hdr] at hl
    obtain ⟨go, yl⟩ := it.1 d hd
    refine .inr ⟨go, LcI pu vs ga gt ge xs σ0 (L2.wipe σ vs) G1 H1 F1 (S1.wipe vs) C Fin (i + 1), fun H'' h => ⟨_, by omega, rfl, h⟩, fun x H2 hy => ?_⟩
    obtain ⟨G2, r2, g2, z2⟩ := fy_step r' (yl x H2 hy)
    have hHC2 := g2.fr C _ hHC hCF
    have hCG2 := g2.keepG hHC hCF hCG
    simp only [loopLc] at hl
    cases hga : ga d S' with
    | none => rw [hga] at hl; exact hl.elim
    | some Sa =>
      rw [hga] at hl
      refine ⟨σ0, G2, S', F', d, Sa, r2, z2, hga, fun σ2 F2 ra asg => ?_⟩
      have hF2 : F2 = F' := by
        funext j
        rcases asg.F j with h | ⟨h1, h2⟩
        · exact h
        · rw [h2, hFv j (by simpa using List.all_eq_true.mp hv j h1)]
      subst hF2
      have hσ : L2.wipe σ2 vs = L2.wipe σ vs := hwipe_ext (by rw [asg.len, L2.wipe_length]) fun j hj => by
        rw [asg.σ j fun h => hj (by simpa using List.all_eq_true.mp hv j h), hwipe_ne hj]
      refine ⟨hσ, σ0, G2, Sa, F2, ra, R.wp_mono (R.wp_bind hl) (fun bb S3 hb3 G3 H3 F3 r3 g3 => ?_) fun _ _ _ h => h.elim⟩
      have hHC3 := g3.fr C _ hHC2 hCF
      have hCG3 := g3.keepG hHC2 hCF hCG2
      have hCF3 : ∀ j, C ∉ F3 j := fun j hj => by
        rcases g3.src j C hj with ⟨k, hk⟩ | hn
        · exact hCF k hk
        · rw [hHC2] at hn; cases hn
      -- what stands at the end of a turn
      have fin : ∀ {G4 H4 : Hp} {F4 : Fps} {S4 : Sl}, SR σ0 G4 H4 σ2 S4 F4 → Gr pu G2 H2 F2 Sa G4 H4 F4 S4 → (pu || wipeOk vs S4) = true →
          SR σ0 G4 H4 (L2.wipe σ vs) (if pu then S' else S4.wipe vs) F4 ∧ Gr pu G1 H1 F1 (S1.wipe vs) G4 H4 F4 (if pu then S' else S4.wipe vs) ∧ ∀ j ∈ vs, F4 j = [] := fun {G4 H4 F4 S4} r4 g4 hok => by
        cases pu with
        | true =>
          obtain ⟨e, g5⟩ := g4.slots (T := S')
          subst e
          exact ⟨r2.later g4 r4.inc r4.fs r4.tp, (g'.trans (g2.trans g5)).weak (fun _ => rfl), hFv⟩
        | false =>
          obtain ⟨r5, r6⟩ := r4.wipe (vs := vs) (by simpa using hok)
          rw [hσ] at r5
          exact ⟨r5, (g'.off.trans (g2.off.trans (g4.anyS (T := S') (T' := S')))).anyS, r6⟩
      cases bb with
      | false =>
        simp only [Bool.false_eq_true, if_false] at hb3 ⊢
        split at hb3
        case isFalse => exact hb3.elim
        rename_i hok
        obtain ⟨f1, f2, f3⟩ := fin r3 (g3.weak fun h => by rw [hpu] at h; exact (Bool.and_eq_true_iff.mp h).1) hok
        exact ⟨acc, us, G3, F3, _, hlt, f1, f2, hHC3, fz.inc (g2.up.trans g3.up), Nat.le_succ_of_le hal, hCF3, hCG3, f3, hb3⟩
      | true =>
        simp only [if_true] at hb3 ⊢
        refine ⟨σ0, G3, S3, F3, r3, R.wp_mono (R.wp_bind hb3) (fun y S4 hb4 v G4 H4 F4 r4 g4 z4 => ?_) fun _ _ _ h => h.elim⟩
        split at hb4
        case isFalse => exact hb4.elim
        rename_i hok
        have hHC4 := g4.fr C _ hHC3 hCF3
        have hCG4 := g4.keepG hHC3 hCF3 hCG3
        have hCF4 : ∀ j, C ∉ F4 j := fun j hj => by
          rcases g4.src j C hj with ⟨k, hk⟩ | hn
          · exact hCF3 k hk
          · rw [hHC3] at hn; cases hn
        obtain ⟨f1, f2, f3⟩ := fin r4 ((g3.trans g4).weak fun h => by rw [hpu] at h; exact h) hok
        have fz4 := fz.inc (g2.up.trans (g3.up.trans g4.up))
        refine ⟨us, hHC4, ?_, acc ++ [y], us ++ [v], G4, F4, _, hlt, f1.upd_out hCF4 hCG4, f2.updD hC, upd_same, fz4.append (.cons z4 .nil), by simp; omega, hCF4, hCG4, f3, ?_⟩
        · rw [fz.length]
          exact Nat.lt_of_lt_of_le (Nat.lt_of_le_of_lt hal hlt) (lineOk.le hlx)
        · refine R.wp_mono (R.wp_bind hb4) (fun ys S5 h5 => ?_) fun _ _ _ h => h
          rw [List.append_assoc]
          exact h5
  · -- the end
    have hie : i = xs.length := by omega
    subst hie
    refine .inl ⟨it.2 (Nat.le_refl _), ?_⟩
    rw [List.drop_length] at hl
    have hl : Fin (acc ++ []) S' := hl
    rw [List.append_nil] at hl
    subst hFin
    refine hl (.ref C) [C] G' H' F' (r1.unwipe hwo r' hFv g'.up) ?_ ?_
    · cases hq : pu with
      | true =>
        rw [hq] at g'
        obtain ⟨a1, a2, a3, a4⟩ := g'.pure rfl
        subst a2
        have e : restFrom vs 0 S' S1 = S1 := by
          subst a1
          apply List.ext_getElem?
          intro j
          rw [restFrom_get _ _ _ _ _ (wipe_len _ _), Nat.zero_add, wipe_get]
          by_cases hj : j ∈ vs
          · rw [if_pos (by simpa using hj)]
          · rw [if_neg (by simpa using hj)]
            cases S1[j]? with
            | none => rfl
            | some c => simp [hj]
        rw [e]
        have g5 : Gr true G1 H1 F' S1 G' H' F' S1 := ⟨g'.up, g'.new, g'.fr, g'.src, fun _ => ⟨rfl, rfl, a3, a4⟩⟩
        exact (g1.trans g5).weak fun h => by simpa using h
      | false => exact ((g1.trans (g'.anyS (T := S1) (T' := S1))).anyS).weak fun h => by simp at h
    · refine VP.from g1 ⟨⟨C, us, [], rfl, hHC, rfl, owL_fz fz⟩, fun _ => by simp, fun _ a ha => ?_, fun _ j a ha => ?_, fun _ a ha => ?_⟩
      · have e : a = C := by simpa using ha
        subst e; exact .inr hC
      · have e : a = C := by simpa using ha
        subst e; exact hCF j
      · have e : a = C := by simpa using ha
        subst e; exact hCG
theorem ve_lc {elt tg iter : Expr} {ifs : List Expr} {scope : Scope} {own : List (Str × Nat)} {vs' : List Nat} {b pu : Bool} {gi : Sl → R (List D)} {ga : D → Sl → Option Sl} {gt : Sl → R Bool} {ge : Sl → R D}
    (hc : X.calm = true) (hN : X.N.Nodup) (hi : VI p b X W tg iter gi) (ok : BlkOk X.N X.env.scope scope own)
    (hg : ∀ (s : Shared) (H : Hp) (C : Addr) (cl : List (Str × Addr)) (fp : List Addr), VG (X.blk s H scope (compEnvC scope cl C X.env) fp) tg vs' ga)
    (ht : ∀ (s : Shared) (H : Hp) (C : Addr) (cl : List (Str × Addr)) (fp : List Addr), VTs q (X.blk s H scope (compEnvC scope cl C X.env) fp) W0 ifs gt)
    (he : ∀ (s : Shared) (H : Hp) (C : Addr) (cl : List (Str × Addr)) (fp : List Addr), VD q' (X.blk s H scope (compEnvC scope cl C X.env) fp) W0 elt ge)
    (hv : vs'.all (fun v => (own.map (·.2)).contains v) = true) (hpu : pu = (q && q')) (hb : b = true → pu = true) (hs : ∀ x, foldedSetIterable iter X.env x = pure x := by intro _; rfl) :
    VE (p && pu) X W (.ListComp elt [⟨tg, iter, ifs, 0⟩] scope pos) (gLc pu (own.map (·.2)) gi ga gt ge) := by
  obtain ⟨wi, i1, i2⟩ := hi
  exact ⟨_, pe_lc hc hN i1 ok (fun s H C cl fp => (hg s H C cl fp).can) (fun s H C cl fp => (ht s H C cl fp).can) (fun s H C cl fp => (he s H C cl fp).can) hs, fun σ0 σ G H S F Q r hw => lc_sem (fun Q h => i2 σ0 σ G H S F Q r h) hv hpu hb r hw⟩
end
end VL

set_option Elab.async false
set_option linter.all false
set_option autoImplicit false
set_option maxRecDepth 100000
namespace VL
open PySem PySem.Spec L2
open PyProof.Rows hiding St

section
variable {X : Cx} {W : WX} {p q p' : Bool} {e ea eb ec : Expr} {es : List Expr} {pos : Pos}
variable {σ0 σ : St} {G H G1 H1 G2 H2 : Hp} {F F1 F2 : Fps} {S S1 S2 : Sl}

theorem VT.run {g : Sl → R Bool} (h : VT p X W e g) : ∃ t, PT X e t ∧ ∀ σ0 σ G H S F Q, SR σ0 G H σ S F → (g S).wp (OkB p σ0 σ G H S F Q) (OkE σ0 σ G H S F W) → t σ H Q := h
/-- the end of a row of steps, told from its start -/
theorem OkD.from {Q : VK} {d : D} {S' : Sl} (g : Gr p G H F S G1 H1 F1 S1) (h : OkD p' σ0 σ G H S F Q d S') (hp : p' = true → p = true ∧ q = true) : OkD q σ0 σ G1 H1 S1 F1 Q d S' :=
  fun v G' H' F' r' g' z' => h v G' H' F' r' ((g.trans g').weak fun x => by obtain ⟨a, b⟩ := hp x; rw [a, b]; rfl) z'
theorem OkV.from {Q : VK} {x : Vl} {S' : Sl} (g : Gr p G H F S G1 H1 F1 S1) (h : OkV p' σ0 σ G H S F Q x S') (hp : p' = true → p = true ∧ q = true) : OkV q σ0 σ G1 H1 S1 F1 Q x S' :=
  fun v fp G' H' F' r' g' z' => h v fp G' H' F' r' ((g.trans g').weak fun x => by obtain ⟨a, b⟩ := hp x; rw [a, b]; rfl) (VP.from g z')
theorem OkB.from {Q : Bool → Hp → Prop} {x : Bool} {S' : Sl} (g : Gr p G H F S G1 H1 F1 S1) (h : OkB p' σ0 σ G H S F Q x S') (hp : p' = true → p = true ∧ q = true) : OkB q σ0 σ G1 H1 S1 F1 Q x S' :=
  fun G' H' F' r' g' => h G' H' F' r' ((g.trans g').weak fun x => by obtain ⟨a, b⟩ := hp x; rw [a, b]; rfl)
theorem and2 : (p && q) = true → p = true ∧ q = true := fun h => Bool.and_eq_true_iff.mp h
theorem and3 : (p && q && p') = true → (p && q) = true ∧ p' = true := fun h => Bool.and_eq_true_iff.mp h

/-! ### and, or, not: tests -/
def gAnd (a b : Sl → R Bool) : Sl → R Bool := fun S => (a S).bind fun x S1 => if x then b S1 else .ok false S1
def gOr (a b : Sl → R Bool) : Sl → R Bool := fun S => (a S).bind fun x S1 => if x then .ok true S1 else b S1
def gNot (a : Sl → R Bool) : Sl → R Bool := fun S => (a S).bind fun x S1 => .ok (!x) S1
def VW (p : Bool) (X : Cx) (W : WX) (e : Expr) (g : Sl → R Bool) : Prop := ∃ t, PW X e t ∧ ∀ σ0 σ G H S F Q, SR σ0 G H σ S F → (g S).wp (OkB p σ0 σ G H S F Q) (OkE σ0 σ G H S F W) → t σ H Q
theorem VW.vt {g : Sl → R Bool} (h : VW p X W e g) : VT p X W e g := by
  obtain ⟨t, h1, h2⟩ := h
  exact ⟨t, h1.pt, h2⟩
theorem vw_and1 {g : Sl → R Bool} (h : VT p X W e g) : VW p X W (.BoolOp .And [e] pos) g := by
  obtain ⟨t, h1, h2⟩ := h
  exact ⟨t, pw_and1 h1, h2⟩
theorem vw_or1 {g : Sl → R Bool} (h : VT p X W e g) : VW p X W (.BoolOp .Or [e] pos) g := by
  obtain ⟨t, h1, h2⟩ := h
  exact ⟨t, pw_or1 h1, h2⟩
theorem vw_and {ga gb : Sl → R Bool} (a : VT p X W ea ga) (b : VW q X W (.BoolOp .And (eb :: es) pos) gb) : VW (p && q) X W (.BoolOp .And (ea :: eb :: es) pos) (gAnd ga gb) := by
  obtain ⟨ta, a1, a2⟩ := a
  obtain ⟨tb, b1, b2⟩ := b
  refine ⟨_, pw_and a1 b1, fun σ0 σ G H S F Q r hw => ?_⟩
  refine VT.then (t := ta) a2 r hw fun x S1 G1 H1 F1 r1 g1 hw1 => ?_
  cases x with
  | true => exact b2 σ0 σ G1 H1 S1 F1 Q r1 (R.wp_mono hw1 (fun y S2 h => OkB.from g1 h and2) fun _ _ _ h => h)
  | false => exact hw1 G1 H1 F1 r1 (g1.weak fun h => (and2 h).1)
theorem vw_or {ga gb : Sl → R Bool} (a : VT p X W ea ga) (b : VW q X W (.BoolOp .Or (eb :: es) pos) gb) : VW (p && q) X W (.BoolOp .Or (ea :: eb :: es) pos) (gOr ga gb) := by
  obtain ⟨ta, a1, a2⟩ := a
  obtain ⟨tb, b1, b2⟩ := b
  refine ⟨_, pw_or a1 b1, fun σ0 σ G H S F Q r hw => ?_⟩
  refine VT.then (t := ta) a2 r hw fun x S1 G1 H1 F1 r1 g1 hw1 => ?_
  cases x with
  | false => exact b2 σ0 σ G1 H1 S1 F1 Q r1 (R.wp_mono hw1 (fun y S2 h => OkB.from g1 h and2) fun _ _ _ h => h)
  | true => exact hw1 G1 H1 F1 r1 (g1.weak fun h => (and2 h).1)
theorem vt_not {ga : Sl → R Bool} (a : VT p X W e ga) : VT p X W (.UnaryOp .Not e pos) (gNot ga) := by
  obtain ⟨ta, a1, a2⟩ := a
  refine ⟨_, pt_not a1, fun σ0 σ G H S F Q r hw => ?_⟩
  exact VT.then (t := ta) a2 r hw fun x S1 G1 H1 F1 r1 g1 hw1 => hw1 G1 H1 F1 r1 g1
/-! ### .. as values -/
def gAndV (a b : Sl → R D) : Sl → R D := fun S => (a S).bind fun x S1 => match x with | .bl true => b S1 | .bl false => .ok (.bl false) S1 | _ => .stuck
def gOrV (a b : Sl → R D) : Sl → R D := fun S => (a S).bind fun x S1 => match x with | .bl true => .ok (.bl true) S1 | .bl false => b S1 | _ => .stuck
def gNotV (a : Sl → R D) : Sl → R D := fun S => (a S).bind fun x S1 => match x with | .bl b => .ok (.bl (!b)) S1 | _ => .stuck
theorem vd_one {op : BoolOp} {g : Sl → R D} (a : VD p X W e g) : VD p X W (.BoolOp op [e] pos) g := by
  obtain ⟨ta, a1, a2⟩ := a
  exact ⟨ta, pe_one a1, a2⟩
theorem vd_and {ga gb : Sl → R D} (a : VD p X W ea ga) (b : VD q X W (.BoolOp .And (eb :: es) pos) gb) : VD (p && q) X W (.BoolOp .And (ea :: eb :: es) pos) (gAndV ga gb) := by
  obtain ⟨ta, a1, a2⟩ := a
  obtain ⟨tb, b1, b2⟩ := b
  refine ⟨_, pe_and a1 b1, fun σ0 σ G H S F Q r hw => ?_⟩
  refine VD.then (t := ta) a2 r hw fun x S1 v G1 H1 F1 r1 g1 z1 hw1 => ?_
  cases x <;> first | exact hw1.elim | skip
  rename_i c
  simp only [Fz] at z1
  refine ⟨c, z1, ?_⟩
  cases c with
  | true => exact b2 σ0 σ G1 H1 S1 F1 Q r1 (R.wp_mono hw1 (fun y S2 h => OkD.from g1 h and2) fun _ _ _ h => h)
  | false => exact hw1 (.bl false) G1 H1 F1 r1 (g1.weak fun h => (and2 h).1) rfl
theorem vd_or {ga gb : Sl → R D} (a : VD p X W ea ga) (b : VD q X W (.BoolOp .Or (eb :: es) pos) gb) : VD (p && q) X W (.BoolOp .Or (ea :: eb :: es) pos) (gOrV ga gb) := by
  obtain ⟨ta, a1, a2⟩ := a
  obtain ⟨tb, b1, b2⟩ := b
  refine ⟨_, pe_or a1 b1, fun σ0 σ G H S F Q r hw => ?_⟩
  refine VD.then (t := ta) a2 r hw fun x S1 v G1 H1 F1 r1 g1 z1 hw1 => ?_
  cases x <;> first | exact hw1.elim | skip
  rename_i c
  simp only [Fz] at z1
  refine ⟨c, z1, ?_⟩
  cases c with
  | false => exact b2 σ0 σ G1 H1 S1 F1 Q r1 (R.wp_mono hw1 (fun y S2 h => OkD.from g1 h and2) fun _ _ _ h => h)
  | true => exact hw1 (.bl true) G1 H1 F1 r1 (g1.weak fun h => (and2 h).1) rfl
theorem vd_not {ga : Sl → R D} (a : VD p X W e ga) : VD p X W (.UnaryOp .Not e pos) (gNotV ga) := by
  obtain ⟨ta, a1, a2⟩ := a
  refine ⟨_, pe_not a1, fun σ0 σ G H S F Q r hw => ?_⟩
  refine VD.then (t := ta) a2 r hw fun x S1 v G1 H1 F1 r1 g1 z1 hw1 => ?_
  cases x <;> first | exact hw1.elim | skip
  rename_i c
  simp only [Fz] at z1
  exact ⟨c, z1, hw1 _ G1 H1 F1 r1 g1 rfl⟩
/-- a if c else b -/
def gIfE {α : Type} (c : Sl → R Bool) (a b : Sl → R α) : Sl → R α := fun S => (c S).bind fun x S1 => if x then a S1 else b S1
theorem ve_if {gc : Sl → R Bool} {ga gb : Sl → R Vl} (c : VT p X W ec gc) (a : VE q X W ea ga) (b : VE p' X W eb gb) : VE (p && q && p') X W (.IfExp ec ea eb pos) (gIfE gc ga gb) := by
  obtain ⟨tc, c1, c2⟩ := c
  obtain ⟨ta, a1, a2⟩ := a
  obtain ⟨tb, b1, b2⟩ := b
  refine ⟨_, pe_ifExp c1 a1 b1, fun σ0 σ G H S F Q r hw => ?_⟩
  refine VT.then (t := tc) c2 r hw fun x S1 G1 H1 F1 r1 g1 hw1 => ?_
  cases x with
  | true => exact a2 σ0 σ G1 H1 S1 F1 Q r1 (R.wp_mono hw1 (fun y S2 h => OkV.from g1 h fun z => and2 (and3 z).1) fun _ _ _ h => h)
  | false => exact b2 σ0 σ G1 H1 S1 F1 Q r1 (R.wp_mono hw1 (fun y S2 h => OkV.from g1 h fun z => ⟨(and2 (and3 z).1).1, (and3 z).2⟩) fun _ _ _ h => h)
theorem vd_if {gc : Sl → R Bool} {ga gb : Sl → R D} (c : VT p X W ec gc) (a : VD q X W ea ga) (b : VD p' X W eb gb) : VD (p && q && p') X W (.IfExp ec ea eb pos) (gIfE gc ga gb) := by
  obtain ⟨tc, c1, c2⟩ := c
  obtain ⟨ta, a1, a2⟩ := a
  obtain ⟨tb, b1, b2⟩ := b
  refine ⟨_, pe_ifExp c1 a1 b1, fun σ0 σ G H S F Q r hw => ?_⟩
  refine VT.then (t := tc) c2 r hw fun x S1 G1 H1 F1 r1 g1 hw1 => ?_
  cases x with
  | true => exact a2 σ0 σ G1 H1 S1 F1 Q r1 (R.wp_mono hw1 (fun y S2 h => OkD.from g1 h fun z => and2 (and3 z).1) fun _ _ _ h => h)
  | false => exact b2 σ0 σ G1 H1 S1 F1 Q r1 (R.wp_mono hw1 (fun y S2 h => OkD.from g1 h fun z => ⟨(and2 (and3 z).1).1, (and3 z).2⟩) fun _ _ _ h => h)

/-! ### truth -/
def truD : D → Option Bool
  | .non => some false
  | .bl b => some b
  | .int i => some (i != 0)
  | .str y => if y.length ≤ 16777216 then some ((y.length : Int) != 0) else none
  | .lst xs => some (!xs.isEmpty)
  | .tup xs => some (!xs.isEmpty)
  | _ => none
def gTru (g : Sl → R Vl) : Sl → R Bool := fun S => (g S).bind fun x S1 => match truD x.d with | some b => .ok b S1 | none => .stuck
theorem isEmpty_len {α β : Type} {xs : List α} {ys : List β} (h : xs.length = ys.length) : xs.isEmpty = ys.isEmpty := by
  cases xs <;> cases ys <;> first | rfl | (simp at h)
theorem vt_tru {g : Sl → R Vl} (h : VE p X W e g) (he : ∀ whole, isTrue e X.env whole = (do let v ← whole; standAt e.pos; holding [v] (truthy v)) := by intro _; rfl) : VT p X W e (gTru g) := by
  obtain ⟨t, h1, h2⟩ := h
  refine ⟨_, pt_truth h1 he, fun σ0 σ G H S F Q r hw => ?_⟩
  refine VE.then (t := t) h2 r hw fun x S1 v fp G1 H1 F1 r1 g1 z1 hw1 => ?_
  obtain ⟨xb, xk, xd⟩ := x
  cases hd : truD xd with
  | none => simp only [hd] at hw1; exact hw1.elim
  | some b =>
    simp only [hd] at hw1
    refine ⟨b, ?_, hw1 G1 H1 F1 r1 g1⟩
    have z := z1.rv
    cases xd <;> simp only [truD] at hd <;> first | (cases hd; done) | skip
    · cases hd; rw [show v = .non from z.non]; rfl
    · cases hd; rw [show v = .bl _ from z.bl]; rfl
    · cases hd; rw [show v = .int _ from z.int]; rfl
    · split at hd
      · rename_i hl
        cases hd
        rw [show v = .str _ from z.str]
        exact ⟨by rw [sizeLine_eq]; exact hl, rfl⟩
      · cases hd
    · cases hd
      obtain ⟨a, vs, rfl, ha, hl, _⟩ := z.lst r1.inc
      exact .inl ⟨vs, .of ha, by rw [isEmpty_len hl]⟩
    · cases hd
      obtain ⟨a, vs, rfl, ha, hl⟩ := z.tup r1.inc
      exact .inr (.inl ⟨vs, .of ha, by rw [isEmpty_len hl.length]⟩)

/-! ### a name's item, the name read when the index is there -/
def gIxN (i : Nat) (gb : Sl → R D) : Sl → R Vl := fun S => match S[i]? with
  | some ⟨_, some _⟩ => (gb S).bind fun j S2 => (match S2[i]? with
    | some ⟨_, some (k, d)⟩ => (match ixV ⟨true, k, d⟩ j with | some y => .ok y S2 | none => .stuck)
    | _ => .stuck)
  | _ => .stuck
/-- the reading of an item, apart from how its parts come -/
theorem ix_ok {x : Vl} {v u : V} {fp : List Addr} {i : D} {y : Vl} {Q : VK} (r2 : SR σ0 G2 H2 σ S2 F2) (z : Ow G2 H2 x.k x.d v fp) (z2 : Fz G2 i u) (hd : ixV x i = some y)
    (hw2 : ∀ w fq, (∀ H F F', VP H F G2 H2 F' y w fq) → Q w H2) : rIx X.K v u H2 Q := by
  obtain ⟨xb, xk, xd⟩ := x
  unfold ixV at hd
  have zr : Rv G2 H2 xd v := ⟨xk, fp, z⟩
  cases xd <;> cases i <;> first | (simp only at hd; cases hd; done) | skip
  all_goals (simp only [Fz] at z2; subst z2)
  · rename_i s j
    simp only at hd
    split at hd
    · rename_i hs'
      simp only [Option.map_eq_some_iff] at hd
      obtain ⟨c, h1, rfl⟩ := hd
      exact .inr (.inr ⟨s, j, c, zr.str, rfl, by rw [sizeLine_eq]; exact hs', h1, hw2 _ [] fun _ _ _ => .fzn rfl⟩)
    · cases hd
  · rename_i ds j
    simp only [Option.map_eq_some_iff] at hd
    obtain ⟨d, h1, rfl⟩ := hd
    obtain ⟨j', h2, h3⟩ := atI_spec h1
    by_cases hk : xk ≤ 1
    · obtain ⟨a, vs, e, rd, fz⟩ := Rv1.lst (G := G2) (H := H2) ⟨xk, fp, hk, z⟩ r2.inc
      obtain ⟨w, e1, e2⟩ := fz.get h3
      have : elemV ⟨xb, xk, .lst ds⟩ d = .fzn d := by simp [elemV, hk]
      rw [this] at hw2
      exact .inl ⟨a, vs, j, w, e, rfl, .of rd, atI_of fz.length h2 e1, hw2 w [] fun _ _ _ => .fzn e2⟩
    · obtain ⟨k, rfl⟩ : ∃ k, xk = k + 2 := ⟨xk - 2, by omega⟩
      obtain ⟨a, vs, f, e, hh, _, ol⟩ := z
      obtain ⟨w, f', e1, e2, _⟩ := ol.get h3
      refine .inl ⟨a, vs, j, w, e, rfl, .of hh, atI_of ol.length h2 e1, ?_⟩
      by_cases ha : d.atom = true
      · have : elemV ⟨xb, k + 2, .lst ds⟩ d = .fzn d := by simp [elemV, ha]
        rw [this] at hw2
        exact hw2 w [] fun _ _ _ => .fzn (e2.atom ha).1
      · have : elemV ⟨xb, k + 2, .lst ds⟩ d = ⟨true, k + 1, d⟩ := by simp [elemV, ha]
        rw [this] at hw2
        exact hw2 w f' fun _ _ _ => ⟨e2, (fun h => nomatch h), (fun h => nomatch h), (fun h => nomatch h), (fun h => nomatch h)⟩
  · rename_i ds j
    simp only [Option.map_eq_some_iff] at hd
    obtain ⟨d, h1, rfl⟩ := hd
    obtain ⟨j', h2, h3⟩ := atI_spec h1
    obtain ⟨a, vs, e, rd, fz⟩ := zr.tup r2.inc
    obtain ⟨w, e1, e2⟩ := fz.get h3
    exact .inr (.inl ⟨a, vs, j, w, e, rfl, .of rd, atI_of fz.length h2 e1, hw2 w [] fun _ _ _ => .fzn e2⟩)
theorem ve_ixN (i : Nat) {x : Str} {xp : Pos} {gb : Sl → R D} (b : VD q X W eb gb) (hN : X.N[i]? = some x := by rfl) (hv : Vis X.env.scope x := by first | exact Or.inl rfl | exact Or.inr (Or.inl rfl) | exact Or.inr (Or.inr rfl)) (hd : (x == ("__debug__" : Str)) = false := by decide)
    (hcd : (x == ("__classdict__" : Str)) = false := by decide) (hs : PlainIx eb := by intro _ _; rfl) : VE q X W (.Subscript (.Name x xp) eb pos) (gIxN i gb) := by
  obtain ⟨tb, b1, b2⟩ := b
  refine ⟨_, pe_ix ix_seq (pe_var hN hv hd hcd) b1 hs, fun σ0 σ G H S F Q r hw => ?_⟩
  unfold gIxN at hw
  split at hw
  · rename_i pin kd hc
    obtain ⟨k, d⟩ := kd
    obtain ⟨_, h2, _⟩ := r.row i _ hc
    obtain ⟨v, e1, _⟩ := h2 k d rfl
    refine ⟨v, e1, ?_⟩
    refine VD.then (t := tb) b2 r hw fun j S2 u G2 H2 F2 r2 g2 z2 hw2 => ?_
    split at hw2
    · rename_i pin2 k2 d2 hc2
      obtain ⟨_, h4, _⟩ := r2.row i _ hc2
      obtain ⟨v', e2, o2⟩ := h4 k2 d2 rfl
      rw [e1] at e2
      cases e2
      cases hd2 : ixV ⟨true, k2, d2⟩ j with
      | none => rw [hd2] at hw2; exact hw2.elim
      | some y =>
        rw [hd2] at hw2
        exact ix_ok (X := X) r2 o2 z2 hd2 fun w fq vp => hw2 w fq G2 H2 F2 r2 g2 (vp H F F2)
    · exact hw2.elim
  · exact hw.elim
end
end VL

set_option Elab.async false
set_option linter.all false
set_option autoImplicit false
set_option maxRecDepth 100000
namespace VL
open PySem PySem.Spec L2
open PyProof.Rows hiding St

/-! ## statements -/
inductive Out where
  | nx | ct | bk
  | rt (x : Vl)
section
variable (σ0 : St) (G H : Hp) (S : Sl) (F : Fps)
def OkS (D : Ends) (o : Out) (S' : Sl) : Prop := ∀ σ' G' H' F', SR σ0 G' H' σ' S' F' → Gr false G H F S G' H' F' S' → match o with
  | .nx => D.nx σ' H'
  | .ct => D.ct σ' H'
  | .bk => D.bk σ' H'
  | .rt x => ∀ v fp, VP H F G' H' F' x v fp → D.rt v H'
def OkX (W : WX) (c : Addr) (w : Option (Str × D)) (S' : Sl) : Prop := ∀ σ' dd G' H' F', SR σ0 G' H' σ' S' F' → Gr false G H F S G' H' F' S' → ER G' H' w dd → W (.ref c) dd σ' H'
end
def VS (X : Cx) (W : WX) (st : Stmt) (g : Sl → R Out) : Prop := ∃ t, PS X st t ∧ ∀ σ0 σ G H S F D, SR σ0 G H σ S F → (g S).wp (OkS σ0 G H S F D) (OkX σ0 G H S F W) → t D σ H
def VSs (X : Cx) (W : WX) (st : List Stmt) (g : Sl → R Out) : Prop := ∃ t, PSs X st t ∧ ∀ σ0 σ G H S F D, SR σ0 G H σ S F → (g S).wp (OkS σ0 G H S F D) (OkX σ0 G H S F W) → t D σ H
section
variable {X : Cx} {W : WX} {p q p' : Bool} {e ea eb ec : Expr} {es : List Expr} {pos : Pos} {st : Stmt} {sts : List Stmt}
variable {σ0 σ : St} {G H G1 H1 G2 H2 : Hp} {F F1 F2 : Fps} {S S1 S2 : Sl}
theorem OkX.oe {c : Addr} {w : Option (Str × D)} {S' : Sl} (h : OkX σ0 G H S F W c w S') : OkE σ0 σ G H S F W c w S' := fun dd G' H' F' r g er => h σ dd G' H' F' r g er
theorem OkX.from (a : Gr p G H F S G1 H1 F1 S1) {c : Addr} {w : Option (Str × D)} {S' : Sl} (h : OkX σ0 G H S F W c w S') : OkX σ0 G1 H1 S1 F1 W c w S' :=
  fun σ' dd G' H' F' r g er => h σ' dd G' H' F' r (a.off.trans g) er
theorem OkS.from (a : Gr p G H F S G1 H1 F1 S1) {D : Ends} {o : Out} {S' : Sl} (h : OkS σ0 G H S F D o S') : OkS σ0 G1 H1 S1 F1 D o S' := fun σ' G' H' F' r g => by
  have := h σ' G' H' F' r (a.off.trans g)
  cases o with
  | rt x => exact fun v fp z => this v fp (VP.from a z)
  | _ => exact this
/-- an expression first -/
theorem VE.sthen {g : Sl → R Vl} {t : TE} {β : Type} {f : Vl → Sl → R β} {ok : β → Sl → Prop} {Q : VK} (h2 : ∀ σ0 σ G H S F Q, SR σ0 G H σ S F → (g S).wp (OkV p σ0 σ G H S F Q) (OkE σ0 σ G H S F W) → t σ H Q)
    (r : SR σ0 G H σ S F) (hw : ((g S).bind f).wp ok (OkX σ0 G H S F W))
    (k : ∀ x S' v fp G' H' F', SR σ0 G' H' σ S' F' → Gr p G H F S G' H' F' S' → VP H F G' H' F' x v fp → (f x S').wp ok (OkX σ0 G' H' S' F' W) → Q v H') : t σ H Q :=
  h2 σ0 σ G H S F Q r (R.wp_mono (R.wp_bind hw) (fun d S' hx v fp G' H' F' r' g' z => k d S' v fp G' H' F' r' g' z (R.wp_mono hx (fun _ _ h => h) fun c w S' h => h.from g')) fun c w S' h => h.oe)
theorem VD.sthen {g : Sl → R D} {t : TE} {β : Type} {f : D → Sl → R β} {ok : β → Sl → Prop} {Q : VK} (h2 : ∀ σ0 σ G H S F Q, SR σ0 G H σ S F → (g S).wp (OkD p σ0 σ G H S F Q) (OkE σ0 σ G H S F W) → t σ H Q)
    (r : SR σ0 G H σ S F) (hw : ((g S).bind f).wp ok (OkX σ0 G H S F W))
    (k : ∀ d S' v G' H' F', SR σ0 G' H' σ S' F' → Gr p G H F S G' H' F' S' → Fz G' d v → (f d S').wp ok (OkX σ0 G' H' S' F' W) → Q v H') : t σ H Q :=
  h2 σ0 σ G H S F Q r (R.wp_mono (R.wp_bind hw) (fun d S' hx v G' H' F' r' g' z => k d S' v G' H' F' r' g' z (R.wp_mono hx (fun _ _ h => h) fun c w S' h => h.from g')) fun c w S' h => h.oe)
theorem VT.sthen {g : Sl → R Bool} {t : TT} {β : Type} {f : Bool → Sl → R β} {ok : β → Sl → Prop} {Q : Bool → Hp → Prop} (h2 : ∀ σ0 σ G H S F Q, SR σ0 G H σ S F → (g S).wp (OkB p σ0 σ G H S F Q) (OkE σ0 σ G H S F W) → t σ H Q)
    (r : SR σ0 G H σ S F) (hw : ((g S).bind f).wp ok (OkX σ0 G H S F W))
    (k : ∀ b S' G' H' F', SR σ0 G' H' σ S' F' → Gr p G H F S G' H' F' S' → (f b S').wp ok (OkX σ0 G' H' S' F' W) → Q b H') : t σ H Q :=
  h2 σ0 σ G H S F Q r (R.wp_mono (R.wp_bind hw) (fun d S' hx G' H' F' r' g' => k d S' G' H' F' r' g' (R.wp_mono hx (fun _ _ h => h) fun c w S' h => h.from g')) fun c w S' h => h.oe)

/-! ### rows of statements -/
def gNext : Sl → R Out := fun S => .ok .nx S
def gThen (a b : Sl → R Out) : Sl → R Out := fun S => (a S).bind fun o S1 => match o with
  | .nx => b S1
  | .ct => .ok .ct S1
  | .bk => .ok .bk S1
  | .rt x => .ok (.rt x) S1
theorem vss_nil : VSs X W [] gNext := ⟨_, pss_nil, fun σ0 σ G H S F D r hw => hw σ G H F r (.refl r)⟩
theorem vss_one {g : Sl → R Out} (h : VS X W st g) : VSs X W [st] g := by
  obtain ⟨t, h1, h2⟩ := h
  exact ⟨t, pss_one h1, h2⟩
theorem vss_cons {ga gb : Sl → R Out} (a : VS X W st ga) (b : VSs X W sts gb) : VSs X W (st :: sts) (gThen ga gb) := by
  obtain ⟨ta, a1, a2⟩ := a
  obtain ⟨tb, b1, b2⟩ := b
  refine ⟨_, pss_cons a1 b1, fun σ0 σ G H S F D r hw => ?_⟩
  refine a2 σ0 σ G H S F _ r (R.wp_mono (R.wp_bind hw) (fun o S1 ho σ1 G1 H1 F1 r1 g1 => ?_) fun _ _ _ h => h)
  cases o with
  | nx => exact b2 σ0 σ1 G1 H1 S1 F1 D r1 (R.wp_mono ho (fun _ _ h => h.from g1) fun _ _ _ h => h.from g1)
  | ct => exact ho σ1 G1 H1 F1 r1 g1
  | bk => exact ho σ1 G1 H1 F1 r1 g1
  | rt x => exact ho σ1 G1 H1 F1 r1 g1
def gBreak : Sl → R Out := fun S => .ok .bk S
def gCont : Sl → R Out := fun S => .ok .ct S
theorem vs_pass : VS X W (.Pass pos) gNext := ⟨_, ps_pass, fun σ0 σ G H S F D r hw => hw σ G H F r (.refl r)⟩
theorem vs_break : VS X W (.Break pos) gBreak := ⟨_, ps_break, fun σ0 σ G H S F D r hw => hw σ G H F r (.refl r)⟩
theorem vs_cont : VS X W (.Continue pos) gCont := ⟨_, ps_continue, fun σ0 σ G H S F D r hw => hw σ G H F r (.refl r)⟩
theorem vs_doc {x j pos pos'} : VS X W (.Expr (.Constant (.str x) j pos) pos') gNext := ⟨_, ps_doc, fun σ0 σ G H S F D r hw => hw σ G H F r (.refl r)⟩
def gDrop (g : Sl → R Vl) : Sl → R Out := fun S => (g S).bind fun _ S1 => .ok .nx S1
theorem vs_expr {g : Sl → R Vl} (h : VE p X W e g) (hs : swapsWith e none pos.line X.env = pure false := by rfl) : VS X W (.Expr e pos) (gDrop g) := by
  obtain ⟨t, h1, h2⟩ := h
  refine ⟨_, ps_expr h1 hs, fun σ0 σ G H S F D r hw => ?_⟩
  exact VE.sthen (t := t) h2 r hw fun x S1 v fp G1 H1 F1 r1 g1 z1 hw1 => hw1 σ G1 H1 F1 r1 g1.off
def gRet (g : Sl → R Vl) : Sl → R Out := fun S => (g S).bind fun x S1 => if x.b then .stuck else .ok (.rt x) S1
theorem vs_ret {g : Sl → R Vl} (h : VE p X W e g) : VS X W (.Return (some e) pos) (gRet g) := by
  obtain ⟨t, h1, h2⟩ := h
  refine ⟨_, ps_ret h1, fun σ0 σ G H S F D r hw => ?_⟩
  refine VE.sthen (t := t) h2 r hw fun x S1 v fp G1 H1 F1 r1 g1 z1 hw1 => ?_
  split at hw1
  · exact hw1.elim
  · exact hw1 σ G1 H1 F1 r1 g1.off v fp z1
def gRetN : Sl → R Out := fun S => .ok (.rt (.fzn .non)) S
theorem vs_retN : VS X W (.Return none pos) gRetN := ⟨_, ps_retN, fun σ0 σ G H S F D r hw => hw σ G H F r (.refl r) .non [] (.fzn rfl)⟩
def gIfS (c : Sl → R Bool) (a b : Sl → R Out) : Sl → R Out := fun S => (c S).bind fun x S1 => if x then a S1 else b S1
theorem vs_if {c : Expr} {sa sb : List Stmt} {gc : Sl → R Bool} {ga gb : Sl → R Out} (hc : VT p X W c gc) (a : VSs X W sa ga) (b : VSs X W sb gb) : VS X W (.If c sa sb pos) (gIfS gc ga gb) := by
  obtain ⟨tc, c1, c2⟩ := hc
  obtain ⟨ta, a1, a2⟩ := a
  obtain ⟨tb, b1, b2⟩ := b
  refine ⟨_, ps_if c1 a1 b1, fun σ0 σ G H S F D r hw => ?_⟩
  refine VT.sthen (t := tc) c2 r hw fun x S1 G1 H1 F1 r1 g1 hw1 => ?_
  cases x with
  | true => exact a2 σ0 σ G1 H1 S1 F1 D r1 (R.wp_mono hw1 (fun _ _ h => h.from g1) fun _ _ _ h => h)
  | false => exact b2 σ0 σ G1 H1 S1 F1 D r1 (R.wp_mono hw1 (fun _ _ h => h.from g1) fun _ _ _ h => h)

/-! ### assignments -/
def gSet (i : Nat) (g : Sl → R Vl) : Sl → R Out := fun S => (g S).bind fun x S1 => if x.b then .stuck else match S1[i]? with
  | some ⟨false, _⟩ => .ok .nx (S1.put i (some (x.k, x.d)))
  | _ => .stuck
theorem Gr.put {i : Nat} {x : Vl} {v : V} {fp : List Addr} {S' : Sl} (g : Gr p G H F S G1 H1 F1 S1) (z : VP H F G1 H1 F1 x v fp) (hb : x.b = false) : Gr false G H F S G1 H1 (fpPut F1 i fp) S' :=
  ⟨g.up, g.new, g.fr, fun j a h => by
    by_cases hj : j = i
    · simp only [fpPut, if_pos hj] at h; exact z.src hb a h
    · simp only [fpPut, if_neg hj] at h; exact g.src j a h, fun h => nomatch h⟩
theorem vs_set (i : Nat) {x : Str} {pos' : Pos} {g : Sl → R Vl} (h : VE p X W e g) (hN : X.N.Nodup) (hi : X.N[i]? = some x := by rfl) (hx : Loc X.env.scope x := by first | exact Or.inl rfl | exact Or.inr rfl)
    (hs : swapsWith e (some (.Name x pos')) pos.line X.env = pure false := by rfl) (hf : X.fn x = true ∨ X.env.scope.names.lookup x = some .local := by first | exact .inr rfl | exact .inl rfl) : VS X W (.Assign [.Name x pos'] e pos) (gSet i g) := by
  obtain ⟨t, h1, h2⟩ := h
  refine ⟨_, ps_set hN hi hx h1 hs hf, fun σ0 σ G H S F D r hw => ?_⟩
  refine VE.sthen (t := t) h2 r hw fun x S1 v fp G1 H1 F1 r1 g1 z1 hw1 => ?_
  split at hw1
  · exact hw1.elim
  · rename_i hb
    have hb : x.b = false := by simpa using hb
    split at hw1
    · rename_i val hc
      have hl : i < σ.length := by rw [r1.len]; exact (List.getElem?_eq_some_iff.mp hc).1
      refine hw1 _ G1 H1 (fpPut F1 i fp) (r1.put hc (by simp) (fun j hj => List.getElem?_set_ne (Ne.symm hj)) (fun h => nomatch h) (fun k d' e => ?_) (fun e => nomatch e) (z1.nd hb) (fun j _ a ha => z1.dj hb j a ha) (z1.ns hb)) (g1.put z1 hb)
      cases e
      exact ⟨v, by simp [List.getElem?_set_self hl], z1.ow⟩
    · exact hw1.elim
theorem sem_dv {g : Sl → R Vl} {t : TE} (h2 : ∀ σ0 σ G H S F Q, SR σ0 G H σ S F → (g S).wp (OkV p σ0 σ G H S F Q) (OkE σ0 σ G H S F W) → t σ H Q) : ∀ σ0 σ G H S F Q, SR σ0 G H σ S F → (gV (gD g) S).wp (OkV p σ0 σ G H S F Q) (OkE σ0 σ G H S F W) → t σ H Q := fun σ0 σ G H S F Q r hw => by
  have hw2 : ((gD g) S).wp (OkD p σ0 σ G H S F Q) (OkE σ0 σ G H S F W) := R.wp_mono (R.wp_bind hw) (fun d S' hx v G' H' F' r' g' z => hx v [] G' H' F' r' g' (.fzn z)) fun c w S' h => h
  refine h2 σ0 σ G H S F Q r (R.wp_mono (R.wp_bind hw2) (fun x S' hx v fp G' H' F' r' g' z => ?_) fun c w S' h => h)
  cases hb : x.b with
  | true => rw [hb] at hx; exact hx.elim
  | false =>
    rw [hb] at hx
    obtain ⟨G2, r2, g2, z2⟩ := z.freeze r' g' hb
    exact hx v G2 H' F' r2 g2 z2
theorem set_sem {i : Nat} {g : Sl → R Vl} {t : TE} {D : Ends} (h2 : ∀ σ0 σ G H S F Q, SR σ0 G H σ S F → (g S).wp (OkV p σ0 σ G H S F Q) (OkE σ0 σ G H S F W) → t σ H Q) (r : SR σ0 G H σ S F) (hw : (gSet i g S).wp (OkS σ0 G H S F D) (OkX σ0 G H S F W)) : tAsg t (gName i) D σ H := by
  refine VE.sthen (t := t) h2 r hw fun x S1 v fp G1 H1 F1 r1 g1 z1 hw1 => ?_
  split at hw1
  · exact hw1.elim
  · rename_i hb
    have hb : x.b = false := by simpa using hb
    split at hw1
    · rename_i val hc
      have hl : i < σ.length := by rw [r1.len]; exact (List.getElem?_eq_some_iff.mp hc).1
      refine hw1 _ G1 H1 (fpPut F1 i fp) (r1.put hc (by simp) (fun j hj => List.getElem?_set_ne (Ne.symm hj)) (fun h => nomatch h) (fun k d' e => ?_) (fun e => nomatch e) (z1.nd hb) (fun j _ a ha => z1.dj hb j a ha) (z1.ns hb)) (g1.put z1 hb)
      cases e
      exact ⟨v, by simp [List.getElem?_set_self hl], z1.ow⟩
    · exact hw1.elim
/-- x = [..], x a plain local: kept frozen, or owned -/
theorem vs_setLc (fr : Bool) (i : Nat) {x : Str} {pos' pos2 : Pos} {q' : Bool} {elt tg iter : Expr} {ifs : List Expr} {scope : Scope} {own : List (Str × Nat)} {vs' : List Nat} {b pu : Bool} {gi : Sl → R (List D)} {ga : D → Sl → Option Sl} {gt : Sl → R Bool} {ge : Sl → R D}
    (hc : X.calm = true) (hN : X.N.Nodup) (hi : VI p b X W tg iter gi) (ok : BlkOk X.N X.env.scope scope own)
    (hg : ∀ (s : Shared) (H : Hp) (C : Addr) (cl : List (Str × Addr)) (fp : List Addr), VG (X.blk s H scope (compEnvC scope cl C X.env) fp) tg vs' ga)
    (ht : ∀ (s : Shared) (H : Hp) (C : Addr) (cl : List (Str × Addr)) (fp : List Addr), VTs q (X.blk s H scope (compEnvC scope cl C X.env) fp) W0 ifs gt)
    (he : ∀ (s : Shared) (H : Hp) (C : Addr) (cl : List (Str × Addr)) (fp : List Addr), VD q' (X.blk s H scope (compEnvC scope cl C X.env) fp) W0 elt ge)
    (hv : vs'.all (fun v => (own.map (·.2)).contains v) = true) (hpu : pu = (q && q')) (hb : b = true → pu = true)
    (hsw : swapsWith (.ListComp elt [⟨tg, iter, ifs, 0⟩] scope pos2) (some (.Name x pos')) pos.line X.env = pure true := by rfl) (hy : X.N[i]? = some x := by rfl) (hyl : X.env.scope.names.lookup x = some .local := by rfl) (hs : ∀ x, foldedSetIterable iter X.env x = pure x := by intro _; rfl) :
    VS X W (.Assign [.Name x pos'] (.ListComp elt [⟨tg, iter, ifs, 0⟩] scope pos2) pos) (gSet i (cond fr (gV (gD (gLc pu (own.map (·.2)) gi ga gt ge))) (gLc pu (own.map (·.2)) gi ga gt ge))) := by
  obtain ⟨wi, i1, i2⟩ := hi
  refine ⟨_, ps_setLc hc hN hy hyl hsw i1 ok (fun s H C cl fp => (hg s H C cl fp).can) (fun s H C cl fp => (ht s H C cl fp).can) (fun s H C cl fp => (he s H C cl fp).can) hs, fun σ0 σ G H S F D r hw => ?_⟩
  have h2 : ∀ σ0 σ G H S F Q, SR σ0 G H σ S F → (gLc pu (own.map (·.2)) gi ga gt ge S).wp (OkV (p && pu) σ0 σ G H S F Q) (OkE σ0 σ G H S F W) → tLc wi (tVG vs' ga) (tVT q W0 gt) (tVD q' W0 ge) (own.map (·.2)) σ H Q := fun σ0 σ G H S F Q r hw => lc_sem (fun Q h => i2 σ0 σ G H S F Q r h) hv hpu hb r hw
  cases fr with
  | true => exact set_sem (sem_dv h2) r hw
  | false => exact set_sem h2 r hw
theorem asg_gr {vs : List Nat} {σ' : St} {S' : Sl} (a : Asg σ σ' F F1 vs) : Gr false G H F S G H F1 S' :=
  ⟨Inc.refl _, fun b hb => .inl hb, fun b o e _ => e, fun j b hb => by
    rcases a.F j with h | ⟨_, h⟩
    · rw [h] at hb; exact .inl ⟨j, hb⟩
    · rw [h] at hb; simp at hb, fun h => nomatch h⟩
def gAsg (ga : D → Sl → Option Sl) (g : Sl → R D) : Sl → R Out := fun S => (g S).bind fun d S1 => match ga d S1 with
  | some S2 => .ok .nx S2
  | none => .stuck
theorem vs_asg {tg : Expr} {vs : List Nat} {ga : D → Sl → Option Sl} {g : Sl → R D} (a : VG X tg vs ga) (h : VD p X W e g) (hs : swapsWithSole [tg] e pos.line X.env = pure false := by rfl) (hw : swappedStores [tg] e X.env = pure none := by rfl)
    (h1 : (assignEach [tg] X.env).map (·.2) = [assign tg X.env] := by rfl) : VS X W (.Assign [tg] e pos) (gAsg ga g) := by
  obtain ⟨t, t1, t2⟩ := h
  obtain ⟨u, u1, u2⟩ := a
  refine ⟨_, ps_asg t1 u1 hs hw h1, fun σ0 σ G H S F D r hw => ?_⟩
  refine VD.sthen (t := t) t2 r hw fun d S1 v G1 H1 F1 r1 g1 z1 hw1 => ?_
  cases hg : ga d S1 with
  | none => rw [hg] at hw1; exact hw1.elim
  | some S2 =>
    rw [hg] at hw1
    exact u2 σ0 σ G1 H1 S1 F1 d v S2 _ r1 z1 hg fun σ2 F2 r2 a2 => hw1 σ2 G1 H1 F2 r2 (g1.off.trans (asg_gr (S := S1) (S' := S2) a2))
/-- a, b = x, y with plain names -/
def gPar (i j : Nat) (g : Sl → R (List D)) : Sl → R Out := fun S => (g S).bind fun ds S1 => match ds with
  | [a, b] => (match gaName i a S1 with
    | some S2 => (match gaName j b S2 with
      | some S3 => .ok .nx S3
      | none => .stuck)
    | none => .stuck)
  | _ => .stuck
theorem vs_par (i j : Nat) {x y : Str} {a b : Expr} {g : Sl → R (List D)} (ha : VA p X W [a, b] g) (hc : X.calm = true) (hN : X.N.Nodup) (hi : X.N[i]? = some x) (hj : X.N[j]? = some y) (hij : i ≠ j)
    (hx : X.env.scope.names.lookup x = some .local) (hy : X.env.scope.names.lookup y = some .local) {st : Stmt} (h : ∀ ta, PA X [a, b] ta → PS X st (tPar i j ta)) : VS X W st (gPar i j g) := by
  obtain ⟨t, t1, t2⟩ := ha
  refine ⟨_, h t t1, fun σ0 σ G H S F D r hw => ?_⟩
  refine t2 σ0 σ G H S F _ r (R.wp_mono (R.wp_bind hw) (fun ds S1 hd vs G1 H1 F1 r1 g1 z1 => ?_) fun c w S' h => h.oe)
  match ds, hd, z1 with
  | [], hd, _ => exact hd.elim
  | [_], hd, _ => exact hd.elim
  | _ :: _ :: _ :: _, hd, _ => exact hd.elim
  | [da, db], hd, z1 =>
    simp only at hd
    cases h1 : gaName i da S1 with
    | none => rw [h1] at hd; exact hd.elim
    | some S2 =>
      rw [h1] at hd
      simp only at hd
      cases h2 : gaName j db S2 with
      | none => rw [h2] at hd; exact hd.elim
      | some S3 =>
        rw [h2] at hd
        simp only [FzL] at z1
        obtain ⟨v, r', rfl, za, w, r'', rfl, zb, rfl⟩ := z1
        obtain ⟨q1, q2⟩ := r1.name za h1
        obtain ⟨q3, q4⟩ := q1.name zb h2
        exact ⟨v, w, rfl, hd _ G1 H1 _ q3 (g1.off.trans (asg_gr (S := S1) (S' := S3) (q2.trans q4)))⟩

/-! ### loops -/
def loopFor (ga : D → Sl → Option Sl) (gb : Sl → R Out) : List D → Sl → R Out
  | [], S => .ok .nx S
  | d :: ds, S => match ga d S with
    | none => .stuck
    | some S1 => (gb S1).bind fun o S2 => match o with
      | .nx => loopFor ga gb ds S2
      | .ct => loopFor ga gb ds S2
      | .bk => .ok .nx S2
      | .rt x => .ok (.rt x) S2
def gFor (gi : Sl → R (List D)) (ga : D → Sl → Option Sl) (gb : Sl → R Out) : Sl → R Out := fun S => (gi S).bind fun xs S1 => loopFor ga gb xs S1
theorem vs_for {tg iter : Expr} {body : List Stmt} {vs : List Nat} {gi : Sl → R (List D)} {ga : D → Sl → Option Sl} {gb : Sl → R Out} (hp : PassesOwn (model X.prog X.w) X.A X.env X.xe) (hc : X.calm = true) (hi : VI p false X W tg iter gi) (hg : VG X tg vs ga) (hb : VSs X W body gb)
    (hs : ∀ x, foldedSetIterable iter X.env x = pure x := by intro _; rfl) : VS X W (.For tg iter body [] pos) (gFor gi ga gb) := by
  obtain ⟨wi, i1, i2⟩ := hi
  obtain ⟨u, u1, u2⟩ := hg
  obtain ⟨tb, b1, b2⟩ := hb
  refine ⟨_, ps_for hp hc i1 u1 b1 hs, fun σ0 σ G H S F D r hw => ?_⟩
  refine i2 σ0 σ G H S F _ r (R.wp_mono (R.wp_bind hw) (fun xs S1 hw1 J G1 H1 F1 r1 g1 ito => ?_) fun c w S' h => h.oe)
  refine ⟨fun i m σ' H' => m = xs.length - i ∧ i ≤ xs.length ∧ ∃ G' F' S', SR σ0 G' H' σ' S' F' ∧ Gr false G H F S G' H' F' S' ∧ Inc G1 G' ∧ (loopFor ga gb (xs.drop i) S').wp (OkS σ0 G H S F D) (OkX σ0 G H S F W), ⟨xs.length, rfl, Nat.zero_le _, G1, F1, S1, r1, g1.off, Inc.refl _, hw1⟩, ?_⟩
  rintro i m σ' H' ⟨rfl, hi, G', F', S', r', g', i', hl⟩
  have it := ito G' H' i' r'.inc r'.tp (fun h => nomatch h) i
  by_cases hlt : i < xs.length
  · obtain ⟨d, hd⟩ : ∃ d, xs[i]? = some d := ⟨xs[i], by simp [hlt]⟩
    have hdr : xs.drop i = d :: xs.drop (i + 1) := by
      rw [List.drop_eq_getElem_cons hlt]
      rw [List.getElem?_eq_getElem hlt] at hd
      cases hd; rfl
    rw [hdr] at hl
    obtain ⟨go, yl⟩ := it.1 d hd
    refine .inr ⟨go, fun σ' H' => ∃ G' F' S', SR σ0 G' H' σ' S' F' ∧ Gr false G H F S G' H' F' S' ∧ Inc G1 G' ∧ (loopFor ga gb (xs.drop (i + 1)) S').wp (OkS σ0 G H S F D) (OkX σ0 G H S F W), fun σ'' H'' h => ⟨xs.length - (i + 1), by omega, rfl, hlt, h⟩, fun x H2 hy => ?_⟩
    obtain ⟨G2, r2, g2, z2⟩ := fy_step r' (yl x H2 hy)
    simp only [loopFor] at hl
    cases hga : ga d S' with
    | none => rw [hga] at hl; exact hl.elim
    | some Sa =>
      rw [hga] at hl
      refine u2 σ0 σ' G2 H2 S' F' d x Sa _ r2 z2 hga fun σ2 F2 ra asg => ?_
      have ga' : Gr false G H F S G2 H2 F2 Sa := (g'.trans g2.off).off.trans (asg_gr (S := S') (S' := Sa) asg)
      refine b2 σ0 σ2 G2 H2 Sa F2 _ ra (R.wp_mono (R.wp_bind hl) (fun o S3 ho σ3 G3 H3 F3 r3 g3 => ?_) fun _ _ _ h => h.from ga')
      have g4 := ga'.trans g3
      cases o with
      | nx => exact ⟨G3, F3, S3, r3, g4, i'.trans (g2.up.trans g3.up), ho⟩
      | ct => exact ⟨G3, F3, S3, r3, g4, i'.trans (g2.up.trans g3.up), ho⟩
      | bk => exact ho σ3 G3 H3 F3 r3 g4
      | rt x => exact fun v fp z => ho σ3 G3 H3 F3 r3 g4 v fp (VP.from ga' z)
  · have hie : i = xs.length := by omega
    subst hie
    rw [List.drop_length] at hl
    exact .inl ⟨it.2 (Nat.le_refl _), hl σ' G' H' F' r' g'⟩
def loopWhile (gc : Sl → R Bool) (gb : Sl → R Out) : Nat → Sl → R Out
  | 0, _ => .stuck
  | n + 1, S => (gc S).bind fun b S1 => if b then (gb S1).bind fun o S2 => (match o with
      | .nx => loopWhile gc gb n S2
      | .ct => loopWhile gc gb n S2
      | .bk => .ok .nx S2
      | .rt x => .ok (.rt x) S2) else .ok .nx S1
theorem vs_while (n : Sl → Nat) {c : Expr} {body : List Stmt} {gc : Sl → R Bool} {gb : Sl → R Out} (hp : PassesOwn (model X.prog X.w) X.A X.env X.xe) (hc : VT p X W c gc) (hb : VSs X W body gb) : VS X W (.While c body [] pos) (fun S => loopWhile gc gb (n S) S) := by
  obtain ⟨tc, c1, c2⟩ := hc
  obtain ⟨tb, b1, b2⟩ := hb
  refine ⟨_, ps_while hp c1 b1, fun σ0 σ G H S F D r hw => ?_⟩
  refine ⟨fun m σ' H' => ∃ G' F' S', SR σ0 G' H' σ' S' F' ∧ Gr false G H F S G' H' F' S' ∧ (loopWhile gc gb m S').wp (OkS σ0 G H S F D) (OkX σ0 G H S F W), ⟨n S, G, F, S, r, .refl r, hw⟩, ?_⟩
  rintro m σ' H' ⟨G', F', S', r', g', hl⟩
  cases m with
  | zero => exact hl.elim
  | succ m =>
    simp only [loopWhile] at hl
    refine c2 σ0 σ' G' H' S' F' _ r' (R.wp_mono (R.wp_bind hl) (fun b S1 hb G1 H1 F1 r1 g1 => ?_) fun c w S' h => (h.from g').oe)
    have g2 : Gr false G H F S G1 H1 F1 S1 := g'.trans g1.off
    cases b with
    | false => exact hb σ' G1 H1 F1 r1 g2
    | true =>
      simp only [if_true] at hb ⊢
      refine ⟨fun σ' H' => ∃ G' F' S', SR σ0 G' H' σ' S' F' ∧ Gr false G H F S G' H' F' S' ∧ (loopWhile gc gb m S').wp (OkS σ0 G H S F D) (OkX σ0 G H S F W), fun σ'' H'' h => ⟨m, Nat.lt_succ_self m, h⟩, ?_⟩
      refine b2 σ0 σ' G1 H1 S1 F1 _ r1 (R.wp_mono (R.wp_bind hb) (fun o S3 ho σ3 G3 H3 F3 r3 g3 => ?_) fun _ _ _ h => h.from g2)
      have g4 := g2.trans g3
      cases o with
      | nx => exact ⟨G3, F3, S3, r3, g4, ho⟩
      | ct => exact ⟨G3, F3, S3, r3, g4, ho⟩
      | bk => exact ho σ3 G3 H3 F3 r3 g4
      | rt x => exact fun v fp z => ho σ3 G3 H3 F3 r3 g4 v fp (VP.from g2 z)
end
end VL

set_option Elab.async false
set_option linter.all false
set_option autoImplicit false
set_option maxRecDepth 100000
namespace VL
open PySem PySem.Spec L2
open PyProof.Rows hiding St

section
variable {P : D → V → List Addr → Prop}
theorem OwL.append : ∀ {ds es : List D} {vs us : List V} {fp fq : List Addr}, OwL P ds vs fp → OwL P es us fq → OwL P (ds ++ es) (vs ++ us) (fp ++ fq)
  | [], es, vs, us, fp, fq, h, k => by obtain ⟨rfl, rfl⟩ := h; simpa using k
  | d :: ds, es, vs, us, fp, fq, h, k => by
    obtain ⟨v, r, f, g, rfl, rfl, h1, h2⟩ := h
    exact ⟨v, r ++ us, f, g ++ fq, rfl, by simp, h1, OwL.append h2 k⟩
theorem OwL.one {d : D} {v : V} {fp : List Addr} (h : P d v fp) : OwL P [d] [v] fp := ⟨v, [], fp, [], rfl, by simp, h, rfl, rfl⟩
/-- one item put elsewhere -/
theorem OwL.erase : ∀ {ds : List D} {vs : List V} {fp : List Addr} {j : Nat} {d : D}, OwL P ds vs fp → ds[j]? = some d → ∃ v f f', vs[j]? = some v ∧ P d v f ∧ OwL P (ds.eraseIdx j) (vs.eraseIdx j) f' ∧ fp.Perm (f ++ f')
  | [], vs, fp, j, d, h, e => by simp at e
  | d0 :: ds, vs, fp, 0, d, h, e => by
    obtain ⟨v, r, f, g, rfl, rfl, h1, h2⟩ := h
    simp at e; subst e
    exact ⟨v, f, g, rfl, h1, h2, .refl _⟩
  | d0 :: ds, vs, fp, j + 1, d, h, e => by
    obtain ⟨v, r, f, g, rfl, rfl, h1, h2⟩ := h
    obtain ⟨u, f1, f2, e1, e2, e3, e4⟩ := OwL.erase (j := j) h2 (by simpa using e)
    refine ⟨u, f1, f ++ f2, by simpa using e1, e2, ⟨v, _, f, f2, rfl, rfl, h1, e3⟩, ?_⟩
    refine (List.Perm.append_left f e4).trans ?_
    rw [← List.append_assoc, ← List.append_assoc]
    exact List.Perm.append_right f2 List.perm_append_comm
theorem OwL.set {d' : D} {v' : V} {fq : List Addr} (hq : P d' v' fq) : ∀ {ds : List D} {vs : List V} {fp : List Addr} {j : Nat} {d : D}, OwL P ds vs fp → ds[j]? = some d → ∃ v f f' f'', vs[j]? = some v ∧ P d v f ∧ OwL P (ds.set j d') (vs.set j v') f'' ∧ fp.Perm (f ++ f') ∧ f''.Perm (fq ++ f')
  | [], vs, fp, j, d, h, e => by simp at e
  | d0 :: ds, vs, fp, 0, d, h, e => by
    obtain ⟨v, r, f, g, rfl, rfl, h1, h2⟩ := h
    simp at e; subst e
    exact ⟨v, f, g, fq ++ g, rfl, h1, ⟨v', r, fq, g, rfl, rfl, hq, h2⟩, .refl _, .refl _⟩
  | d0 :: ds, vs, fp, j + 1, d, h, e => by
    obtain ⟨v, r, f, g, rfl, rfl, h1, h2⟩ := h
    obtain ⟨u, f1, f2, f3, e1, e2, e3, e4, e5⟩ := OwL.set hq (j := j) h2 (by simpa using e)
    refine ⟨u, f1, f ++ f2, f ++ f3, by simpa using e1, e2, ⟨v, _, f, f3, rfl, rfl, h1, e3⟩, ?_, ?_⟩
    · refine (List.Perm.append_left f e4).trans ?_
      rw [← List.append_assoc, ← List.append_assoc]
      exact List.Perm.append_right f2 List.perm_append_comm
    · refine (List.Perm.append_left f e5).trans ?_
      rw [← List.append_assoc, ← List.append_assoc]
      exact List.Perm.append_right f2 List.perm_append_comm
end
section
variable {X : Cx} {W : WX} {p q p' : Bool} {e ea eb ec : Expr} {es : List Expr} {pos : Pos} {st : Stmt} {sts : List Stmt}
variable {σ0 σ : St} {G H G1 H1 G2 H2 : Hp} {F F1 F2 : Fps} {S S1 S2 : Sl}
/-- what a slot owns is rewritten -/
theorem SR.mut' {i : Nat} {c : Cell} {v : V} {k d k' d'} {f' : List Addr} {H' : Hp} (r : SR σ0 G H σ S F) (hc : S[i]? = some c) (hv : c.val = some (k, d)) (hσ : σ[i]? = some (some v))
    (hH : ∀ b, b ∉ F i → ∀ o, H b = some o → H' b = some o) (ho : Ow G H' k' d' v f') (nd : f'.Nodup) (hf : ∀ a ∈ f', a ∈ F i ∨ (∀ j, a ∉ F j) ∧ G a = none) (ht : ∀ b us, H' b = some (.tup us) → H b = some (.tup us)) :
    SR σ0 G H' σ (S.put i (some (k', d'))) (fpPut F i f') where
  len := by rw [put_length]; exact r.len
  row := fun j cj hj => by
    rw [put_at hc] at hj
    by_cases hji : j = i
    · subst hji
      rw [if_pos rfl] at hj; cases hj
      obtain ⟨h1, _, _⟩ := r.row j c hc
      simp only [fpPut, if_pos]
      exact ⟨h1, fun k1 d1 e => by cases e; exact ⟨v, hσ, ho⟩, fun e => nomatch e⟩
    · rw [if_neg hji] at hj
      obtain ⟨h1, h2, h3⟩ := r.row j cj hj
      simp only [fpPut, if_neg hji]
      refine ⟨h1, fun k1 d1 e => ?_, h3⟩
      obtain ⟨u, e1, e2⟩ := h2 k1 d1 e
      exact ⟨u, e1, e2.keep (Inc.refl _) fun b hb o hbo => hH b (fun h => hji (r.dj j i b hb h)) o hbo⟩
  out := fun j hj => by
    rw [put_length] at hj
    have hi := (List.getElem?_eq_some_iff.mp hc).1
    simp only [fpPut, if_neg (show ¬ j = i by omega)]
    exact r.out j hj
  nd := fun j => by
    by_cases hji : j = i
    · subst hji; simpa [fpPut] using nd
    · simpa [fpPut, hji] using r.nd j
  dj := fun j l a h1 h2 => by
    have off : ∀ j, j ≠ i → a ∈ F j → a ∉ f' := fun j hj h3 h4 => by
      rcases hf a h4 with h5 | ⟨h5, _⟩
      · exact hj (r.dj j i a h3 h5)
      · exact h5 j h3
    by_cases hji : j = i
    · by_cases hli : l = i
      · rw [hji, hli]
      · simp only [fpPut, if_pos hji] at h1
        simp only [fpPut, if_neg hli] at h2
        exact absurd h1 (off l hli h2)
    · simp only [fpPut, if_neg hji] at h1
      by_cases hli : l = i
      · simp only [fpPut, if_pos hli] at h2
        exact absurd h2 (off j hji h1)
      · simp only [fpPut, if_neg hli] at h2
        exact r.dj j l a h1 h2
  fs := fun j a h => by
    by_cases hji : j = i
    · simp only [fpPut, if_pos hji] at h
      rcases hf a h with h5 | ⟨_, h5⟩
      · exact r.fs i a h5
      · exact h5
    · simp only [fpPut, if_neg hji] at h; exact r.fs j a h
  inc := fun b o hb => hH b (fun h => by rw [r.fs i b h] at hb; cases hb) o (r.inc b o hb)
  tp := fun b us e => r.tp b us (ht b us e)
theorem upd_ntup {a : Addr} {o : HO} (ho : ∀ us, o ≠ .tup us := by intro _ z; cases z) : ∀ b us, upd H a o b = some (.tup us) → H b = some (.tup us) := fun b us e => by
  by_cases hb : b = a
  · subst hb; rw [upd_same] at e; exact absurd (Option.some.inj e) (ho us)
  · rw [upd_ne hb] at e; exact e
theorem Gr.mut {i : Nat} {f' : List Addr} {H' : Hp} {S' T' : Sl} (g : Gr p G H F S G1 H1 F1 S1) (hH : ∀ b, b ∉ F1 i → ∀ o, H1 b = some o → H' b = some o) (hf : ∀ a ∈ f', (∃ j, a ∈ F j) ∨ H a = none ∨ a ∈ F1 i) : Gr false G H F S G1 H' (fpPut F1 i f') S' where
  up := g.up
  new := g.new
  fr := fun a o h hn => hH a (fun hi => by
    rcases g.src i a hi with ⟨j, hj⟩ | hz
    · exact hn j hj
    · rw [h] at hz; cases hz) o (g.fr a o h hn)
  src := fun j a h => by
    by_cases hj : j = i
    · simp only [fpPut, if_pos hj] at h
      rcases hf a h with h1 | h1 | h1
      · exact .inl h1
      · exact .inr h1
      · exact g.src i a h1
    · simp only [fpPut, if_neg hj] at h; exact g.src j a h
  pure := fun h => nomatch h
theorem tyL {a : Addr} {vs : List V} (h : H a = some (.lst vs)) : tyV X.K "list" (.ref a) H := .inl ⟨rfl, vs, .of h⟩
/-- the list that a slot owns, as it stands -/
theorem SR.lst {i k : Nat} {pin : Bool} {ds : List D} (r : SR σ0 G H σ S F) (hc : S[i]? = some ⟨pin, some (k + 1, .lst ds)⟩) : ∃ a vs f, σ[i]? = some (some (.ref a)) ∧ H a = some (.lst vs) ∧ F i = a :: f ∧ OwL (Ow G H k) ds vs f := by
  obtain ⟨_, h2, _⟩ := r.row i _ hc
  obtain ⟨v, e1, a, vs, f, rfl, h, e, z⟩ := h2 _ _ rfl
  exact ⟨a, vs, f, e1, h, e, z⟩
/-! ### xs.append(x) -/
def gApd (i : Nat) (g : Sl → R Vl) : Sl → R D := fun S => match S[i]? with
  | some ⟨_, some (_ + 1, .lst _)⟩ => (g S).bind fun x S1 => if x.b then .stuck else (match S1[i]? with
    | some ⟨_, some (k + 1, .lst xs)⟩ => if decide (xs.length < 16777216) && (x.k == k || k == 0 || x.d.atom) then .ok .non (S1.put i (some (k + 1, .lst (xs ++ [x.d])))) else .stuck
    | _ => .stuck)
  | _ => .stuck
theorem vd_append (i : Nat) {x : Str} {xp apos cpos : Pos} {g : Sl → R Vl} (h : VE p X W e g) (hN : X.N[i]? = some x := by rfl) (hv : Vis X.env.scope x := by first | exact Or.inl rfl | exact Or.inr (Or.inl rfl) | exact Or.inr (Or.inr rfl)) (hd : (x == ("__debug__" : Str)) = false := by decide)
    (hcd : (x == ("__classdict__" : Str)) = false := by decide)
    (hbase : attributeBase (.Name x xp) "append" X.env (eval (.Name x xp) X.env) = eval (.Name x xp) X.env := by rfl)
    (hfew : ((backTo cpos (starEach [e] X.env)).all (fun x => !x.1) && (backToKw cpos (keywordEach [] X.env)).all (fun x => x.1.isSome)
      && decide ([e].length + ([] : List Keyword).length + (if ([] : List Keyword).isEmpty then 0 else 1) < 30)) = true := by rfl)
    (hline : (apos.endLine == cpos.line) = true := by rfl) (hs : starEach [e] X.env = (false, eval e X.env) :: starEach [] X.env := by rfl) (hplain : (backTo cpos (starEach [] X.env)).any (·.1) = false := by rfl) :
    VD false X W (.Call (.Attribute (.Name x xp) "append" apos) [e] [] cpos) (gApd i g) := by
  obtain ⟨t, t1, t2⟩ := h
  refine ⟨_, pe_bm PySem.F.plainAttrs_list PySem.F.slot_list_append PySem.F.type_list_append mt_append (pe_var hN hv hd hcd) (pa_cons t1 pa_nil hs) hbase hfew hline hs hplain, fun σ0 σ G H S F Q r hw => ?_⟩
  unfold gApd at hw
  split at hw
  case h_2 => exact hw.elim
  rename_i pin k0 ds0 hc
  obtain ⟨a, vs0, f0, hσ, hH0, _, _⟩ := r.lst hc
  refine ⟨_, hσ, tyL hH0, ?_⟩
  refine VE.then (t := t) t2 r hw fun y S1 v fp G1 H1 F1 r1 g1 z1 hw1 => ?_
  obtain ⟨yb, yk, yd⟩ := y
  cases yb with
  | true => exact hw1.elim
  | false =>
    simp only [Bool.false_eq_true, if_false] at hw1
    split at hw1
    case h_2 => exact hw1.elim
    rename_i pin1 k xs hc1
    split at hw1
    case isFalse => exact hw1.elim
    rename_i hcond
    simp only [Bool.and_eq_true, Bool.or_eq_true, decide_eq_true_eq, beq_iff_eq] at hcond
    obtain ⟨hlen, hk⟩ := hcond
    -- the item as the list wants it
    obtain ⟨G2, fq, r2, g2, zo, hnd, hsrc, hdj, hns⟩ : ∃ G2 fq, SR σ0 G2 H1 σ S1 F1 ∧ Gr p G H F S G2 H1 F1 S1 ∧ Ow G2 H1 k yd v fq ∧ fq.Nodup ∧ (∀ b ∈ fq, (∃ j, b ∈ F j) ∨ H b = none) ∧ (∀ j, ∀ b ∈ fq, b ∉ F1 j) ∧ ∀ b ∈ fq, G2 b = none := by
      rcases hk with (hk | hk) | hk
      · have hk : yk = k := hk
        subst hk
        exact ⟨G1, fp, r1, g1, z1.ow, z1.nd rfl, z1.src rfl, z1.dj rfl, z1.ns rfl⟩
      · subst hk
        obtain ⟨G2, r2, g2, z2⟩ := z1.freeze r1 g1 rfl
        exact ⟨G2, [], r2, g2, ⟨z2, rfl⟩, .nil, by simp, by simp, by simp⟩
      · have := z1.ow.atom hk
        refine ⟨G1, [], r1, g1, ?_, .nil, by simp, by simp, by simp⟩
        cases k with
        | zero => exact ⟨this.1, rfl⟩
        | succ k => cases yd <;> first | exact ⟨this.1, rfl⟩ | cases hk
    obtain ⟨a', vs, f, hσ', hH, hF, ol⟩ := r2.lst hc1
    rw [hσ] at hσ'
    cases hσ'
    refine ⟨a, vs, v, rfl, rfl, hH, ?_, ?_⟩
    · rw [ol.length]
      rw [sizeLine_eq]; exact hlen
    have hnda := r2.nd i
    rw [hF] at hnda
    have haf : a ∉ f := (List.nodup_cons.mp hnda).1
    have hafq : a ∉ fq := fun h => hdj i a h (by rw [hF]; simp)
    have hu : ∀ b, b ∉ F1 i → ∀ o, H1 b = some o → upd H1 a (.lst (vs ++ [v])) b = some o := fun b hb o ho => by
      rw [upd_ne fun e : b = a => hb (by rw [e, hF]; simp)]; exact ho
    refine hw1 .non G2 _ _ (r2.mut' (f' := a :: (f ++ fq)) hc1 rfl hσ hu ⟨a, vs ++ [v], f ++ fq, rfl, upd_same, rfl, ?_⟩ ?_ ?_ upd_ntup) (g2.mut (T' := S1) hu ?_) rfl
    · refine OwL.append (ol.mono fun d u fd hd z => z.keep (Inc.refl _) fun b hb o ho => ?_) (OwL.one (zo.keep (Inc.refl _) fun b hb o ho => ?_))
      · rw [upd_ne fun e : b = a => haf (e ▸ hd b hb)]; exact ho
      · rw [upd_ne fun e : b = a => hafq (e ▸ hb)]; exact ho
    · rw [List.nodup_cons, List.nodup_append]
      refine ⟨by simp [haf, hafq], (List.nodup_cons.mp hnda).2, hnd, fun b hb b' hb' e => ?_⟩
      subst e
      exact hdj i b hb' (by rw [hF]; simp [hb])
    · intro b hb
      rw [List.mem_cons, List.mem_append] at hb
      rcases hb with hb | hb | hb
      · exact .inl (by rw [hF, hb]; simp)
      · exact .inl (by rw [hF]; simp [hb])
      · exact .inr ⟨fun j => hdj j b hb, hns b hb⟩
    · intro b hb
      rw [List.mem_cons, List.mem_append] at hb
      rcases hb with hb | hb | hb
      · exact .inr (.inr (by rw [hF, hb]; simp))
      · exact .inr (.inr (by rw [hF]; simp [hb]))
      · rcases hsrc b hb with h | h
        · exact .inl h
        · exact .inr (.inl h)
/-! ### xs.pop(), xs.pop(j) -/
def gPop (i : Nat) : Sl → R Vl := fun S => match S[i]? with
  | some ⟨_, some (k + 1, .lst xs)⟩ => (match xs[xs.length - 1]? with
    | some d => .ok ⟨false, k, d⟩ (S.put i (some (k + 1, .lst xs.dropLast)))
    | none => .stuck)
  | _ => .stuck
theorem dropLast_erase {α : Type} (xs : List α) : xs.dropLast = xs.eraseIdx (xs.length - 1) := by
  rw [List.eraseIdx_eq_take_drop_succ, List.dropLast_eq_take]
  by_cases h : xs = []
  · subst h; rfl
  · have := List.length_pos_iff.mpr h
    rw [show xs.length - 1 + 1 = xs.length by omega, List.drop_length, List.append_nil]
/-- an item leaves its list -/
theorem pop_ok {i k j : Nat} {pin : Bool} {xs : List D} {d : D} {Q : VK} {a : Addr} (r : SR σ0 G1 H1 σ S1 F1) (g : Gr p G H F S G1 H1 F1 S1) (hc : S1[i]? = some ⟨pin, some (k + 1, .lst xs)⟩) (hσ : σ[i]? = some (some (.ref a))) (hd : xs[j]? = some d)
    (hq : OkV false σ0 σ G H S F Q ⟨false, k, d⟩ (S1.put i (some (k + 1, .lst (xs.eraseIdx j))))) :
    ∃ vs v, H1 a = some (.lst vs) ∧ vs.length = xs.length ∧ vs[j]? = some v ∧ Q v (upd H1 a (.lst (vs.eraseIdx j))) := by
  obtain ⟨a', vs, f, hσ', hH, hF, ol⟩ := r.lst hc
  rw [hσ] at hσ'
  cases hσ'
  obtain ⟨v, f1, f2, e1, e2, e3, e4⟩ := ol.erase hd
  refine ⟨vs, v, hH, ol.length, e1, ?_⟩
  have hnda := r.nd i
  rw [hF] at hnda
  obtain ⟨haf, hnf⟩ := List.nodup_cons.mp hnda
  have hnf' := e4.nodup_iff.mp hnf
  obtain ⟨n1, n2, n3⟩ := List.nodup_append.mp hnf'
  have in1 : ∀ b ∈ f1, b ∈ f := fun b hb => e4.mem_iff.mpr (List.mem_append_left _ hb)
  have in2 : ∀ b ∈ f2, b ∈ f := fun b hb => e4.mem_iff.mpr (List.mem_append_right _ hb)
  have hu : ∀ b, b ∉ F1 i → ∀ o, H1 b = some o → upd H1 a (.lst (vs.eraseIdx j)) b = some o := fun b hb o ho => by
    rw [upd_ne fun e : b = a => hb (by rw [e, hF]; simp)]; exact ho
  have keep : ∀ {d u fd}, (∀ b ∈ fd, b ∈ f) → Ow G1 H1 k d u fd → Ow G1 (upd H1 a (.lst (vs.eraseIdx j))) k d u fd := fun {d u fd} hin z => z.keep (Inc.refl _) fun b hb o ho => by
    rw [upd_ne fun e : b = a => haf (e ▸ hin b hb)]; exact ho
  refine hq v f1 G1 _ (fpPut F1 i (a :: f2)) (r.mut' hc rfl hσ hu ⟨a, vs.eraseIdx j, f2, rfl, upd_same, rfl, e3.mono fun d u fd hin z => keep (fun b hb => in2 b (hin b hb)) z⟩ (List.nodup_cons.mpr ⟨fun h => haf (in2 a h), n2⟩) ?_ upd_ntup) (g.mut (T' := S1) hu ?_)
    ⟨keep in1 e2, fun _ => n1, fun _ b hb => g.src i b (by rw [hF]; exact List.mem_cons_of_mem _ (in1 b hb)), fun _ l b hb hl => ?_, fun _ b hb => r.fs i b (by rw [hF]; exact List.mem_cons_of_mem _ (in1 b hb))⟩
  · intro b hb
    rcases List.mem_cons.mp hb with hb | hb
    · exact .inl (by rw [hF, hb]; simp)
    · exact .inl (by rw [hF]; exact List.mem_cons_of_mem _ (in2 b hb))
  · intro b hb
    rcases List.mem_cons.mp hb with hb | hb
    · exact .inr (.inr (by rw [hF, hb]; simp))
    · exact .inr (.inr (by rw [hF]; exact List.mem_cons_of_mem _ (in2 b hb)))
  · have hbF : b ∈ F1 i := by rw [hF]; exact List.mem_cons_of_mem _ (in1 b hb)
    by_cases hli : l = i
    · simp only [fpPut, if_pos hli] at hl
      rcases List.mem_cons.mp hl with hl | hl
      · exact haf (hl ▸ in1 b hb)
      · exact n3 b hb b hl rfl
    · simp only [fpPut, if_neg hli] at hl
      exact hli (r.dj l i b hl hbF)
theorem ve_pop (i : Nat) {x : Str} {xp apos cpos : Pos} (hN : X.N[i]? = some x := by rfl) (hv : Vis X.env.scope x := by first | exact Or.inl rfl | exact Or.inr (Or.inl rfl) | exact Or.inr (Or.inr rfl)) (hd : (x == ("__debug__" : Str)) = false := by decide)
    (hcd : (x == ("__classdict__" : Str)) = false := by decide)
    (hbase : attributeBase (.Name x xp) "pop" X.env (eval (.Name x xp) X.env) = eval (.Name x xp) X.env := by rfl) (hline : (apos.endLine == cpos.line) = true := by rfl) : VE false X W (.Call (.Attribute (.Name x xp) "pop" apos) [] [] cpos) (gPop i) := by
  refine ⟨_, pe_bm0 PySem.F.plainAttrs_list PySem.F.slot_list_pop PySem.F.type_list_pop mt_pop (pe_var hN hv hd hcd) hbase hline, fun σ0 σ G H S F Q r hw => ?_⟩
  unfold gPop at hw
  split at hw
  case h_2 => exact hw.elim
  rename_i pin k xs hc
  split at hw
  case h_2 => exact hw.elim
  rename_i d hdd
  obtain ⟨a, vs0, f0, hσ, hH0, _, ol⟩ := r.lst hc
  rw [dropLast_erase] at hw
  obtain ⟨vs, v, h1, h2, h3, h4⟩ := pop_ok (p := true) r (.refl r) hc hσ hdd hw
  refine ⟨_, hσ, tyL h1, a, vs, v, rfl, rfl, h1, by rw [h2]; exact h3, ?_⟩
  rw [dropLast_erase, h2]
  exact h4
def gPopAt (i : Nat) (g : Sl → R D) : Sl → R Vl := fun S => match S[i]? with
  | some ⟨_, some (_ + 1, .lst _)⟩ => (g S).bind fun y S1 => (match S1[i]?, y with
    | some ⟨_, some (k + 1, .lst xs)⟩, .int n => if decide (-(2 ^ 63) ≤ n ∧ n < 2 ^ 63) then (match seqIndex? n xs.length with
      | some j => (match xs[j]? with
        | some d => .ok ⟨false, k, d⟩ (S1.put i (some (k + 1, .lst (xs.eraseIdx j))))
        | none => .stuck)
      | none => .stuck) else .stuck
    | _, _ => .stuck)
  | _ => .stuck
theorem ve_popAt (i : Nat) {x : Str} {xp apos cpos : Pos} {g : Sl → R D} (h : VD p X W e g) (hN : X.N[i]? = some x := by rfl) (hv : Vis X.env.scope x := by first | exact Or.inl rfl | exact Or.inr (Or.inl rfl) | exact Or.inr (Or.inr rfl)) (hd : (x == ("__debug__" : Str)) = false := by decide)
    (hcd : (x == ("__classdict__" : Str)) = false := by decide)
    (hbase : attributeBase (.Name x xp) "pop" X.env (eval (.Name x xp) X.env) = eval (.Name x xp) X.env := by rfl)
    (hfew : ((backTo cpos (starEach [e] X.env)).all (fun x => !x.1) && (backToKw cpos (keywordEach [] X.env)).all (fun x => x.1.isSome)
      && decide ([e].length + ([] : List Keyword).length + (if ([] : List Keyword).isEmpty then 0 else 1) < 30)) = true := by rfl)
    (hline : (apos.endLine == cpos.line) = true := by rfl) (hs : starEach [e] X.env = (false, eval e X.env) :: starEach [] X.env := by rfl) (hplain : (backTo cpos (starEach [] X.env)).any (·.1) = false := by rfl) :
    VE false X W (.Call (.Attribute (.Name x xp) "pop" apos) [e] [] cpos) (gPopAt i g) := by
  obtain ⟨t, t1, t2⟩ := h
  refine ⟨_, pe_bm PySem.F.plainAttrs_list PySem.F.slot_list_pop PySem.F.type_list_pop mt_popAt (pe_var hN hv hd hcd) (pa_cons t1 pa_nil hs) hbase hfew hline hs hplain, fun σ0 σ G H S F Q r hw => ?_⟩
  unfold gPopAt at hw
  split at hw
  case h_2 => exact hw.elim
  rename_i pin k0 ds0 hc
  obtain ⟨a, vs0, f0, hσ, hH0, _, _⟩ := r.lst hc
  refine ⟨_, hσ, tyL hH0, ?_⟩
  refine VD.then (t := t) t2 r hw fun y S1 v G1 H1 F1 r1 g1 z1 hw1 => ?_
  split at hw1
  case h_2 => exact hw1.elim
  rename_i pin1 k xs n hc1
  split at hw1
  case isFalse => exact hw1.elim
  rename_i hn
  obtain ⟨n1, n2⟩ := of_decide_eq_true hn
  split at hw1
  case h_2 => exact hw1.elim
  rename_i j hj
  split at hw1
  case h_2 => exact hw1.elim
  rename_i d hdd
  obtain ⟨vs, u, h1, h2, h3, h4⟩ := pop_ok r1 g1 hc1 hσ hdd hw1
  simp only [Fz] at z1
  subst z1
  exact ⟨a, vs, n, j, u, rfl, rfl, h1, n1, n2, by rw [h2]; exact hj, h3, h4⟩
/-! ### xs[j] = x -/
def gSetIx (i : Nat) (gx : Sl → R D) (gj : Sl → R D) : Sl → R Out := fun S => (gx S).bind fun d S1 => match S1[i]? with
  | some ⟨_, some (_ + 1, .lst _)⟩ => (gj S1).bind fun y S2 => (match S2[i]?, y with
    | some ⟨_, some (k + 1, .lst xs)⟩, .int n => if k == 0 || d.atom then (match ixN xs.length n with
      | some j => .ok .nx (S2.put i (some (k + 1, .lst (xs.set j d))))
      | none => .stuck) else .stuck
    | _, _ => .stuck)
  | _ => .stuck
theorem ixN_lt {n : Nat} {i : Int} {j : Nat} (h : ixN n i = some j) : j < n := (ixN_seq h).2.1
theorem Ow.ofFz {k : Nat} {d : D} {v : V} (z : Fz G d v) (h : k = 0 ∨ d.atom = true) : Ow G H k d v [] := by
  cases k with
  | zero => exact ⟨z, rfl⟩
  | succ k =>
    rcases h with h | h
    · cases h
    · cases d <;> first | exact ⟨z, rfl⟩ | cases h
theorem vs_setIx (i : Nat) {x : Str} {ej : Expr} {xp spos : Pos} {gx : Sl → R D} {gj : Sl → R D} (h : VD p X W e gx) (hj : VD q X W ej gj) (hN : X.N[i]? = some x := by rfl) (hv : Vis X.env.scope x := by first | exact Or.inl rfl | exact Or.inr (Or.inl rfl) | exact Or.inr (Or.inr rfl)) (hd : (x == ("__debug__" : Str)) = false := by decide)
    (hcd : (x == ("__classdict__" : Str)) = false := by decide)
    (hsv : ∀ v, assign (.Subscript (.Name x xp) ej spos) X.env v = (do
      let ov ← holding [v] (eval (.Name x xp) X.env)
      let iv ← holding [v, ov] (eval ej X.env)
      standAt spos
      holding [v, ov, iv] (setItem ov iv v)
      release [v, ov, iv] []) := by intro _; rfl)
    (hs : swapsWithSole [.Subscript (.Name x xp) ej spos] e pos.line X.env = pure false := by rfl) (hw : swappedStores [.Subscript (.Name x xp) ej spos] e X.env = pure none := by rfl)
    (h1 : (assignEach [.Subscript (.Name x xp) ej spos] X.env).map (·.2) = [assign (.Subscript (.Name x xp) ej spos) X.env] := by rfl) :
    VS X W (.Assign [.Subscript (.Name x xp) ej spos] e pos) (gSetIx i gx gj) := by
  obtain ⟨t, t1, t2⟩ := h
  obtain ⟨u, u1, u2⟩ := hj
  refine ⟨_, ps_asg t1 (pg_sub (pe_var hN hv hd hcd) u1 set_list hsv) hs hw h1, fun σ0 σ G H S F Ed r hw => ?_⟩
  refine VD.sthen (t := t) t2 r hw fun d S1 v G1 H1 F1 r1 g1 z1 hw1 => ?_
  split at hw1
  case h_2 => exact hw1.elim
  rename_i pin k0 ds0 hc
  obtain ⟨a, vs0, f0, hσ, hH0, _, _⟩ := r1.lst hc
  refine ⟨_, hσ, ?_⟩
  refine VD.sthen (t := u) u2 r1 hw1 fun y S2 w G2 H2 F2 r2 g2 z2 hw2 => ?_
  split at hw2
  case h_2 => exact hw2.elim
  rename_i pin1 k xs n hc1
  split at hw2
  case isFalse => exact hw2.elim
  rename_i hk
  split at hw2
  case h_2 => exact hw2.elim
  rename_i j hj
  simp only [Fz] at z2
  subst z2
  obtain ⟨a', vs, f, hσ', hH, hF, ol⟩ := r2.lst hc1
  rw [hσ] at hσ'
  cases hσ'
  have zo : Ow G2 H2 k d v [] := Ow.ofFz (z1.inc g2.up) (by simpa using hk)
  refine ⟨a, vs, n, j, rfl, rfl, hH, by rw [ol.length]; exact hj, ?_⟩
  have hnda := r2.nd i
  rw [hF] at hnda
  obtain ⟨haf, hnf⟩ := List.nodup_cons.mp hnda
  have hu : ∀ b, b ∉ F2 i → ∀ o, H2 b = some o → upd H2 a (.lst (vs.set j v)) b = some o := fun b hb o ho => by
    rw [upd_ne fun e : b = a => hb (by rw [e, hF]; simp)]; exact ho
  have hjl := ixN_lt hj
  obtain ⟨v0, f1, f2, f3, e1, e2, e3, e4, e5⟩ := OwL.set (P := Ow G2 H2 k) (d' := d) (v' := v) (fq := []) zo (j := j) (d := xs[j]) ol (by simp [hjl])
  rw [List.nil_append] at e5
  have in3 : ∀ b ∈ f3, b ∈ f := fun b hb => e4.mem_iff.mpr (List.mem_append_right _ (e5.mem_iff.mp hb))
  have nf3 : f3.Nodup := e5.nodup_iff.mpr (List.nodup_append.mp (e4.nodup_iff.mp hnf)).2.1
  refine hw2 σ G2 _ (fpPut F2 i (a :: f3)) (r2.mut' hc1 rfl hσ hu ⟨a, vs.set j v, f3, rfl, upd_same, rfl, e3.mono fun d' u fd hin z => z.keep (Inc.refl _) fun b hb o ho => ?_⟩ (List.nodup_cons.mpr ⟨fun h => haf (in3 a h), nf3⟩) ?_ upd_ntup) ((g1.trans g2).mut (T' := S1) hu ?_)
  · rw [upd_ne fun e : b = a => haf (e ▸ in3 b (hin b hb))]; exact ho
  · intro b hb
    rcases List.mem_cons.mp hb with hb | hb
    · exact .inl (by rw [hF, hb]; simp)
    · exact .inl (by rw [hF]; exact List.mem_cons_of_mem _ (in3 b hb))
  · intro b hb
    rcases List.mem_cons.mp hb with hb | hb
    · exact .inr (.inr (by rw [hF, hb]; simp))
    · exact .inr (.inr (by rw [hF]; exact List.mem_cons_of_mem _ (in3 b hb)))
end
end VL

set_option Elab.async false
set_option linter.all false
set_option autoImplicit false
set_option maxRecDepth 100000
namespace VL
open PySem PySem.Spec L2
open PyProof.Rows hiding St

/-! ## calls of own functions -/
inductive Ar where
  | v (d : D)
  | io (i : Nat)
def idxIo : List Ar → Nat → Option Nat
  | [], _ => none
  | .io i :: as, j => if i = j then some 0 else (idxIo as j).map (· + 1)
  | .v _ :: as, j => (idxIo as j).map (· + 1)
def okIo : List Ar → Bool
  | [] => true
  | .io i :: as => (idxIo as i).isNone && okIo as
  | .v _ :: as => okIo as
theorem idxIo_at : ∀ {as : List Ar} {j i : Nat}, idxIo as j = some i → as[i]? = some (.io j)
  | [], j, i, h => by cases h
  | .io k :: as, j, i, h => by
    simp only [idxIo] at h
    split at h
    · rename_i e; subst e; cases h; rfl
    · obtain ⟨n, h1, rfl⟩ := Option.map_eq_some_iff.mp h
      simpa using idxIo_at h1
  | .v _ :: as, j, i, h => by
    obtain ⟨n, h1, rfl⟩ := Option.map_eq_some_iff.mp h
    simpa using idxIo_at h1
theorem idxIo_of : ∀ {as : List Ar} {j i : Nat}, okIo as = true → as[i]? = some (.io j) → idxIo as j = some i
  | [], j, i, _, h => by simp at h
  | .io k :: as, j, 0, o, h => by
    simp at h; subst h; simp [idxIo]
  | .io k :: as, j, i + 1, o, h => by
    simp only [okIo, Bool.and_eq_true] at o
    have h' : as[i]? = some (.io j) := by simpa using h
    have q := idxIo_of o.2 h'
    simp only [idxIo]
    split
    · rename_i e; subst e
      rw [q] at o; simp at o
    · rw [q]; rfl
  | .v _ :: as, j, 0, o, h => by simp at h
  | .v _ :: as, j, i + 1, o, h => by
    have h' : as[i]? = some (.io j) := by simpa using h
    simp only [idxIo]
    rw [idxIo_of (by simpa [okIo] using o) h']; rfl
def argSl : List Ar → Sl → Option Sl
  | [], _ => some []
  | .v d :: as, S => (argSl as S).map (⟨false, some (0, d)⟩ :: ·)
  | .io i :: as, S => match S[i]? with
    | some ⟨_, some kd⟩ => (argSl as S).map (⟨true, some kd⟩ :: ·)
    | _ => none
theorem argSl_at : ∀ {as : List Ar} {S T : Sl}, argSl as S = some T → T.length = as.length ∧ ∀ (i : Nat) (c : Cell), T[i]? = some c → (∃ d, as[i]? = some (.v d) ∧ c = ⟨false, some (0, d)⟩) ∨ ∃ j pin kd, as[i]? = some (.io j) ∧ S[j]? = some ⟨pin, some kd⟩ ∧ c = ⟨true, some kd⟩
  | [], S, T, h => by cases h; exact ⟨rfl, fun i c h => by simp at h⟩
  | .v d :: as, S, T, h => by
    obtain ⟨T', h1, rfl⟩ := Option.map_eq_some_iff.mp h
    obtain ⟨l, g⟩ := argSl_at h1
    refine ⟨by simp [l], fun i c hc => ?_⟩
    cases i with
    | zero => simp at hc; exact .inl ⟨d, rfl, hc.symm⟩
    | succ i => simpa using g i c (by simpa using hc)
  | .io k :: as, S, T, h => by
    simp only [argSl] at h
    split at h
    · rename_i pin kd hk
      obtain ⟨T', h1, rfl⟩ := Option.map_eq_some_iff.mp h
      obtain ⟨l, g⟩ := argSl_at h1
      refine ⟨by simp [l], fun i c hc => ?_⟩
      cases i with
      | zero => simp at hc; exact .inr ⟨k, pin, kd, rfl, hk, hc.symm⟩
      | succ i => simpa using g i c (by simpa using hc)
    · cases h
def backFrom (as : List Ar) (T : Sl) : Nat → Sl → Sl
  | _, [] => []
  | j, c :: cs => (match idxIo as j with
    | some i => (match T[i]? with
      | some c' => ⟨c.pin, c'.val⟩
      | none => c)
    | none => c) :: backFrom as T (j + 1) cs
def backSl (as : List Ar) (T S : Sl) : Sl := backFrom as T 0 S
theorem backFrom_get (as : List Ar) (T : Sl) : ∀ (S : Sl) (n j : Nat), (backFrom as T n S)[j]? = S[j]?.map fun c => match idxIo as (n + j) with
    | some i => (match T[i]? with
      | some c' => ⟨c.pin, c'.val⟩
      | none => c)
    | none => c
  | [], n, j => by simp [backFrom]
  | c :: cs, n, 0 => by simp [backFrom]
  | c :: cs, n, j + 1 => by
    simp only [backFrom, List.getElem?_cons_succ]
    rw [backFrom_get as T cs (n + 1) j, show n + 1 + j = n + (j + 1) by omega]
theorem backFrom_len (as : List Ar) (T : Sl) : ∀ (S : Sl) (n : Nat), (backFrom as T n S).length = S.length
  | [], n => rfl
  | c :: cs, n => by simp [backFrom, backFrom_len as T cs (n + 1)]
structure ArOk (σ : St) (G : Hp) (as : List Ar) (vs : List V) : Prop where
  len : vs.length = as.length
  v : ∀ (i : Nat) (d : D), as[i]? = some (.v d) → ∃ v, vs[i]? = some v ∧ Fz G d v
  io : ∀ (i j : Nat), as[i]? = some (.io j) → ∃ v, vs[i]? = some v ∧ σ[j]? = some (some v)
theorem ArOk.inc {σ : St} {G G' : Hp} {as : List Ar} {vs : List V} (m : Inc G G') (h : ArOk σ G as vs) : ArOk σ G' as vs := ⟨h.len, fun i d e => let ⟨v, a, b⟩ := h.v i d e; ⟨v, a, b.inc m⟩, h.io⟩
section
variable {X : Cx} {W : WX} {p q p' : Bool} {e ea eb ec : Expr} {es : List Expr} {pos : Pos}
variable {σ0 σ : St} {G H G1 H1 G2 H2 : Hp} {F F1 F2 : Fps} {S S1 S2 : Sl}
def OkR (p : Bool) (σ0 σ : St) (G H : Hp) (S : Sl) (F : Fps) (Q : List V → Hp → Prop) (as : List Ar) (S' : Sl) : Prop := ∀ vs G' H' F', SR σ0 G' H' σ S' F' → Gr p G H F S G' H' F' S' → ArOk σ G' as vs → Q vs H'
def VAr (p : Bool) (X : Cx) (W : WX) (es : List Expr) (g : Sl → R (List Ar)) : Prop := ∃ t, PA X es t ∧ ∀ σ0 σ G H S F Q, SR σ0 G H σ S F → (g S).wp (OkR p σ0 σ G H S F Q) (OkE σ0 σ G H S F W) → t σ H Q
def gArN : Sl → R (List Ar) := fun S => .ok [] S
def gArV (g : Sl → R D) (r : Sl → R (List Ar)) : Sl → R (List Ar) := fun S => (g S).bind fun d S1 => (r S1).bind fun as S2 => .ok (.v d :: as) S2
def gArIo (i : Nat) (r : Sl → R (List Ar)) : Sl → R (List Ar) := fun S => match S[i]? with
  | some ⟨_, some _⟩ => (r S).bind fun as S2 => .ok (.io i :: as) S2
  | _ => .stuck
theorem var_nil : VAr true X W [] gArN := ⟨_, pa_nil, fun σ0 σ G H S F Q r hw => hw [] G H F r (.refl r) ⟨rfl, fun i d h => by simp at h, fun i d h => by simp at h⟩⟩
theorem VAr.then {g : Sl → R (List Ar)} {t : TA} {β : Type} {f : List Ar → Sl → R β} {ok : β → Sl → Prop} {Q : List V → Hp → Prop} (h2 : ∀ σ0 σ G H S F Q, SR σ0 G H σ S F → (g S).wp (OkR p σ0 σ G H S F Q) (OkE σ0 σ G H S F W) → t σ H Q)
    (r : SR σ0 G H σ S F) (hw : ((g S).bind f).wp ok (OkE σ0 σ G H S F W))
    (k : ∀ as S' vs G' H' F', SR σ0 G' H' σ S' F' → Gr p G H F S G' H' F' S' → ArOk σ G' as vs → (f as S').wp ok (OkE σ0 σ G' H' S' F' W) → Q vs H') : t σ H Q :=
  h2 σ0 σ G H S F Q r (R.wp_mono (R.wp_bind hw) (fun d S' hx v G' H' F' r' g' z => k d S' v G' H' F' r' g' z (R.wp_mono hx (fun _ _ h => h) fun c w S' h => h.from g')) fun c w S' h => h)
theorem var_v {g : Sl → R D} {gr : Sl → R (List Ar)} (h : VD p X W e g) (hr : VAr q X W es gr) (hs : starEach (e :: es) X.env = (false, eval e X.env) :: starEach es X.env := by rfl) : VAr (p && q) X W (e :: es) (gArV g gr) := by
  obtain ⟨t, a1, a2⟩ := h
  obtain ⟨u, b1, b2⟩ := hr
  refine ⟨_, pa_cons a1 b1 hs, fun σ0 σ G H S F Q r hw => ?_⟩
  refine VD.then (t := t) a2 r hw fun x S1 v G1 H1 F1 r1 g1 z1 hw1 => ?_
  refine VAr.then (t := u) b2 r1 hw1 fun as S2 vs G2 H2 F2 r2 g2 z2 hw2 => ?_
  refine hw2 (v :: vs) G2 H2 F2 r2 (g1.trans g2) ⟨by simp [z2.len], fun i d h => ?_, fun i j h => ?_⟩
  · cases i with
    | zero => simp at h; subst h; exact ⟨v, rfl, z1.inc g2.up⟩
    | succ i => simpa using z2.v i d (by simpa using h)
  · cases i with
    | zero => simp at h
    | succ i => simpa using z2.io i j (by simpa using h)
theorem var_io (i : Nat) {x : Str} {xp : Pos} {gr : Sl → R (List Ar)} (hr : VAr q X W es gr) (hN : X.N[i]? = some x := by rfl) (hv : Vis X.env.scope x := by first | exact Or.inl rfl | exact Or.inr (Or.inl rfl) | exact Or.inr (Or.inr rfl)) (hd : (x == ("__debug__" : Str)) = false := by decide)
    (hcd : (x == ("__classdict__" : Str)) = false := by decide) (hs : starEach (.Name x xp :: es) X.env = (false, eval (.Name x xp) X.env) :: starEach es X.env := by rfl) : VAr q X W (.Name x xp :: es) (gArIo i gr) := by
  obtain ⟨u, b1, b2⟩ := hr
  refine ⟨_, pa_cons (pe_var hN hv hd hcd) b1 hs, fun σ0 σ G H S F Q r hw => ?_⟩
  unfold gArIo at hw
  split at hw
  case h_2 => exact hw.elim
  rename_i pin kd hc
  obtain ⟨k, d⟩ := kd
  obtain ⟨_, h2, _⟩ := r.row i _ hc
  obtain ⟨v, e1, _⟩ := h2 k d rfl
  refine ⟨v, e1, ?_⟩
  refine VAr.then (t := u) b2 r hw fun as S2 vs G2 H2 F2 r2 g2 z2 hw2 => ?_
  refine hw2 (v :: vs) G2 H2 F2 r2 g2 ⟨by simp [z2.len], fun n d h => ?_, fun n j h => ?_⟩
  · cases n with
    | zero => simp at h
    | succ n => simpa using z2.v n d (by simpa using h)
  · cases n with
    | zero => simp at h; subst h; exact ⟨v, rfl, e1⟩
    | succ n => simpa using z2.io n j (by simpa using h)

/-! ### what a def promises -/
def SpF (n : Nat) (f : Sl → R Vl) : Sp := fun vs H Q E => vs.length = n ∧ ∃ G T F, SR (vs.map some) G H (vs.map some) T F ∧ (f T).wp
  (fun x T' => ∀ v fp G' H' F', SR (vs.map some) G' H' (vs.map some) T' F' → Gr false G H F T G' H' F' T' → VP H F G' H' F' x v fp → Q v H')
  (fun c w T' => ∀ dd G' H' F', SR (vs.map some) G' H' (vs.map some) T' F' → Gr false G H F T G' H' F' T' → ER G' H' w dd → E (.ref c) dd H')
def gCall (f : Sl → R Vl) (ga : Sl → R (List Ar)) : Sl → R Vl := fun S => (ga S).bind fun as S1 => if okIo as then (match argSl as S1 with
  | none => .stuck
  | some T => (match f T with
    | .stuck => .stuck
    | .ok x T' => .ok x (backSl as T' S1)
    | .err c w T' => .err c w (backSl as T' S1))) else .stuck
def argF (as : List Ar) (F : Fps) : Fps := fun i => match as[i]? with
  | some (.io j) => F j
  | _ => []
def backF (as : List Ar) (F' F : Fps) : Fps := fun j => match idxIo as j with
  | some i => F' i
  | none => F j
theorem SR.args {as : List Ar} {vs : List V} {T : Sl} (r : SR σ0 G H σ S F) (a : ArOk σ G as vs) (ok : okIo as = true) (hT : argSl as S = some T) : SR (vs.map some) G H (vs.map some) T (argF as F) := by
  obtain ⟨tl, tg⟩ := argSl_at hT
  have sub : ∀ {i b}, b ∈ argF as F i → ∃ j, as[i]? = some (.io j) ∧ b ∈ F j := fun {i b} h => by
    unfold argF at h
    split at h
    · rename_i j e; exact ⟨j, e, h⟩
    · simp at h
  refine ⟨by rw [List.length_map, a.len, tl], fun i c hc => ⟨fun _ => rfl, fun k d e => ?_, fun e => ?_⟩, fun i hi => ?_, fun i => ?_, fun i j b h1 h2 => ?_, fun i b h => ?_, r.inc, r.tp⟩
  · rcases tg i c hc with ⟨d', h1, rfl⟩ | ⟨j, pin, kd, h1, h2, rfl⟩
    · cases e
      obtain ⟨v, e1, e2⟩ := a.v i _ h1
      exact ⟨v, by simp [e1], e2, by simp [argF, h1]⟩
    · simp only at e
      cases e
      obtain ⟨v, e1, e2⟩ := a.io i _ h1
      obtain ⟨_, h4, _⟩ := r.row j _ h2
      obtain ⟨v', e3, e4⟩ := h4 _ _ rfl
      rw [e2] at e3
      cases e3
      exact ⟨v, by simp [e1], by simpa [argF, h1] using e4⟩
  · rcases tg i c hc with ⟨d', h1, rfl⟩ | ⟨j, pin, kd, h1, h2, rfl⟩
    · cases e
    · cases e
  · unfold argF
    rw [List.getElem?_eq_none (by omega)]
  · unfold argF
    split
    · exact r.nd _
    · exact .nil
  · obtain ⟨k, e1, b1⟩ := sub h1
    obtain ⟨l, e2, b2⟩ := sub h2
    have := r.dj k l b b1 b2
    subst this
    have q1 := idxIo_of ok e1
    rw [idxIo_of ok e2] at q1
    cases q1; rfl
  · obtain ⟨k, e1, b1⟩ := sub h
    exact r.fs k b b1
theorem argF_sub {as : List Ar} {i : Nat} {b : Addr} (h : b ∈ argF as F i) : ∃ j, as[i]? = some (.io j) ∧ b ∈ F j := by
  unfold argF at h
  split at h
  · rename_i j e; exact ⟨j, e, h⟩
  · simp at h
theorem SR.back {as : List Ar} {vs : List V} {T T' : Sl} {F' : Fps} (r : SR σ0 G H σ S F) (a : ArOk σ G as vs) (ok : okIo as = true) (hT : argSl as S = some T) (r' : SR (vs.map some) G1 H1 (vs.map some) T' F') (g : Gr false G H (argF as F) T G1 H1 F' T') :
    SR σ0 G1 H1 σ (backSl as T' S) (backF as F' F) ∧ Gr false G H F S G1 H1 (backF as F' F) (backSl as T' S) := by
  obtain ⟨tl, tg⟩ := argSl_at hT
  have tl' : T'.length = as.length := by rw [← r'.len, List.length_map, a.len]
  have off : ∀ {j b}, idxIo as j = none → b ∈ F j → ∀ i, b ∉ argF as F i := fun {j b} hj hb i h => by
    obtain ⟨k, e1, b1⟩ := argF_sub h
    have := r.dj j k b hb b1
    subst this
    rw [idxIo_of ok e1] at hj; cases hj
  have mix : ∀ {i j b}, b ∈ F' i → idxIo as j = none → b ∈ F j → False := fun {i j b} h1 h2 h3 => by
    rcases g.src i b h1 with ⟨k, hk⟩ | hn
    · exact off h2 h3 k hk
    · obtain ⟨o, ho⟩ := r.dom h3
      rw [ho] at hn; cases hn
  refine ⟨⟨?_, fun j c hc => ?_, fun j hj => ?_, fun j => ?_, fun j l b h1 h2 => ?_, fun j b h => ?_, r'.inc, r'.tp⟩, g.up, fun b hb => ?_, fun b o hb hf => ?_, fun j b h => ?_, fun h => nomatch h⟩
  · unfold backSl; rw [backFrom_len]; exact r.len
  · unfold backSl at hc
    rw [backFrom_get, Nat.zero_add] at hc
    cases hs : S[j]? with
    | none => rw [hs] at hc; cases hc
    | some c0 =>
      rw [hs] at hc
      simp only [Option.map_some] at hc
      obtain ⟨h1, h2, h3⟩ := r.row j c0 hs
      cases hi : idxIo as j with
      | none =>
        rw [hi] at hc
        cases hc
        simp only [backF, hi]
        refine ⟨h1, fun k d e => ?_, h3⟩
        obtain ⟨v, e1, e2⟩ := h2 k d e
        exact ⟨v, e1, e2.keep g.up fun b hb o ho => g.fr b o ho (off hi hb)⟩
      | some i =>
        rw [hi] at hc
        have hio := idxIo_at hi
        have hil : i < T'.length := by rw [tl']; exact (List.getElem?_eq_some_iff.mp hio).1
        simp only [List.getElem?_eq_getElem hil] at hc
        cases hc
        obtain ⟨v, e1, e2⟩ := a.io i j hio
        obtain ⟨_, q2, q3⟩ := r'.row i T'[i] (by simp [hil])
        simp only [backF, hi]
        refine ⟨h1, fun k d e => ?_, q3⟩
        obtain ⟨u, e3, e4⟩ := q2 k d e
        rw [List.getElem?_map, e1] at e3
        cases e3
        exact ⟨v, e2, e4⟩
  · have hl : S.length ≤ j := by unfold backSl at hj; rw [backFrom_len] at hj; exact hj
    unfold backF
    cases hi : idxIo as j with
    | none => exact r.out j hl
    | some i =>
      obtain ⟨v, e1, e2⟩ := a.io i j (idxIo_at hi)
      have := (List.getElem?_eq_some_iff.mp e2).1
      rw [r.len] at this
      omega
  · unfold backF
    split
    · exact r'.nd _
    · exact r.nd j
  · unfold backF at h1 h2
    cases hi : idxIo as j with
    | none =>
      rw [hi] at h1
      cases hk : idxIo as l with
      | none => rw [hk] at h2; exact r.dj j l b h1 h2
      | some k => rw [hk] at h2; exact (mix h2 hi h1).elim
    | some i =>
      rw [hi] at h1
      cases hk : idxIo as l with
      | none => rw [hk] at h2; exact (mix h1 hk h2).elim
      | some k =>
        rw [hk] at h2
        have := r'.dj i k b h1 h2
        subst this
        have e1 := idxIo_at hi
        rw [idxIo_at hk] at e1
        cases e1; rfl
  · unfold backF at h
    cases hi : idxIo as j with
    | some i => rw [hi] at h; exact r'.fs i b h
    | none =>
      rw [hi] at h
      obtain ⟨o, ho⟩ := r.dom h
      exact g.keepG ho (off hi h) (r.fs j b h)
  · rcases g.new b hb with h | ⟨i, h⟩ | h
    · exact .inl h
    · obtain ⟨k, _, b1⟩ := argF_sub h
      exact .inr (.inl ⟨k, b1⟩)
    · exact .inr (.inr h)
  · exact g.fr b o hb fun i hi => by
      obtain ⟨k, _, b1⟩ := argF_sub hi
      exact hf k b1
  · unfold backF at h
    cases hi : idxIo as j with
    | none => rw [hi] at h; exact .inl ⟨j, h⟩
    | some i =>
      rw [hi] at h
      rcases g.src i b h with ⟨k, hk⟩ | hn
      · obtain ⟨l, _, b1⟩ := argF_sub hk
        exact .inl ⟨l, b1⟩
      · exact .inr hn
theorem VP.back {as : List Ar} {vs : List V} {T T' : Sl} {F' : Fps} {x : Vl} {v : V} {fp : List Addr} (r : SR σ0 G H σ S F) (ok : okIo as = true) (g : Gr false G H (argF as F) T G1 H1 F' T') (z : VP H (argF as F) G1 H1 F' x v fp) : VP H F G1 H1 (backF as F' F) x v fp :=
  ⟨z.ow, z.nd, fun hb b h => by
    rcases z.src hb b h with ⟨k, hk⟩ | hn
    · obtain ⟨l, _, b1⟩ := argF_sub hk
      exact .inl ⟨l, b1⟩
    · exact .inr hn, (fun hb j b h hf => by
    unfold backF at hf
    cases hi : idxIo as j with
    | some i => rw [hi] at hf; exact z.dj hb i b h hf
    | none =>
      rw [hi] at hf
      rcases z.src hb b h with ⟨k, hk⟩ | hn
      · obtain ⟨l, e1, b1⟩ := argF_sub hk
        have := r.dj j l b hf b1
        subst this
        rw [idxIo_of ok e1] at hi; cases hi
      · obtain ⟨o, ho⟩ := r.dom hf
        rw [ho] at hn; cases hn), z.ns⟩
theorem call_sp {as : List Ar} {vs : List V} {n : Nat} {f : Sl → R Vl} {Q : VK} (r : SR σ0 G1 H1 σ S1 F1) (g : Gr p G H F S G1 H1 F1 S1) (a : ArOk σ G1 as vs) (hn : as.length = n)
    (hw : (if okIo as then (match argSl as S1 with
      | none => R.stuck
      | some T => (match f T with
        | .stuck => .stuck
        | .ok x T' => .ok x (backSl as T' S1)
        | .err c w T' => .err c w (backSl as T' S1))) else .stuck).wp (OkV false σ0 σ G H S F Q) (OkE σ0 σ G1 H1 S1 F1 W)) : SpF n f vs H1 Q (WE W σ) := by
  split at hw
  case isFalse => exact hw.elim
  rename_i ok
  split at hw
  case h_1 => exact hw.elim
  rename_i T hT
  refine ⟨by rw [a.len, hn], G1, T, argF as F1, r.args a ok hT, ?_⟩
  cases hf : f T with
  | stuck => rw [hf] at hw; exact hw.elim
  | ok x T' =>
    rw [hf] at hw
    intro v fp G2 H2 F2 r2 g2 z2
    obtain ⟨r3, g3⟩ := r.back a ok hT r2 g2
    exact hw v fp G2 H2 _ r3 ((g.off).trans g3) (VP.from g (VP.back (vs := vs) r ok g2 z2))
  | err c w T' =>
    rw [hf] at hw
    intro dd G2 H2 F2 r2 g2 er
    obtain ⟨r3, g3⟩ := r.back a ok hT r2 g2
    exact hw dd G2 H2 _ r3 g3 er
theorem ve_call {x : Str} {xp : Pos} {k n : Nat} {f : Addr} {fd : FuncData} {ps : List Str} {fs : Sl → R Vl} {ga : Sl → R (List Ar)} (Fn : FnOk X.prog X.w X.K X.mg X.base (L2.CX X.prog X.w) k f fd ps (SpF n fs)) (tk : Takes X W) (hr : Room k X.A) (hg : Gl X x) (hm : X.mg x = some (.ref f)) (hk : PySem.W.keepIn X.K (.ref f) = true) (hb : Binds X.K fd ps [])
    (ha : VAr p X W (e :: es) ga) (hn : (e :: es).length = n) (hl : ∀ S as S', ga S = .ok as S' → as.length = n) (hdb : (x == ("__debug__" : Str)) = false := by decide) (he : starEach (e :: es) X.env = (false, eval e X.env) :: starEach es X.env := by rfl) (hpl : (backTo pos (starEach es X.env)).any (·.1) = false := by rfl) :
    VE false X W (.Call (.Name x xp) (e :: es) [] pos) (gCall fs ga) := by
  obtain ⟨t, t1, t2⟩ := ha
  refine ⟨_, pe_callS Fn hr hg hm hk hb (E := WE W) (fun σ => passAt tk σ) t1 hdb he hpl, fun σ0 σ G H S F Q r hw => ?_⟩
  unfold gCall at hw
  cases hga : ga S with
  | stuck => rw [hga] at hw; exact hw.elim
  | err c w S' =>
    rw [hga] at hw
    exact t2 σ0 σ G H S F _ r (by rw [hga]; exact hw)
  | ok as S1 =>
    rw [hga] at hw
    refine t2 σ0 σ G H S F _ r ?_
    rw [hga]
    intro vs G1 H1 F1 r1 g1 a
    exact call_sp (W := W) r1 g1 a (hl S as S1 hga) (R.wp_mono hw (fun _ _ h => h) fun c w S' h => h.from g1)

/-! ### a def -/
def keepN (n : Nat) (S : Sl) : Sl := (S.take n).map fun c => if c.pin then c else ⟨false, none⟩
def fnSem (n m : Nat) (gb : Sl → R Out) : Sl → R Vl := fun T => match gb (T ++ List.replicate m ⟨false, none⟩) with
  | .stuck => .stuck
  | .ok (.rt x) S' => if n ≤ S'.length then .ok x (keepN n S') else .stuck
  | .ok .nx S' => if n ≤ S'.length then .ok (.fzn .non) (keepN n S') else .stuck
  | .ok _ _ => .stuck
  | .err c w S' => if n ≤ S'.length then .err c w (keepN n S') else .stuck
def keepF (n : Nat) (S : Sl) (F : Fps) : Fps := fun i => match S[i]? with
  | some ⟨true, _⟩ => if i < n then F i else []
  | _ => []
theorem keepF_sub {n : Nat} {i : Nat} {b : Addr} (h : b ∈ keepF n S F i) : b ∈ F i := by
  unfold keepF at h
  split at h
  · split at h
    · exact h
    · simp at h
  · simp at h
theorem SR.start {N : List Str} {vs : List V} {T : Sl} (r : SR (vs.map some) G H (vs.map some) T F) (hN : vs.length ≤ N.length) : SR (L2.start N vs) G H (L2.start N vs) (T ++ List.replicate (N.length - vs.length) ⟨false, none⟩) F := by
  have hl : T.length = vs.length := by rw [← r.len, List.length_map]
  refine ⟨by simp [L2.start, hl], fun i c hc => ⟨fun _ => rfl, fun k d e => ?_, fun e => ?_⟩, fun i hi => r.out i (by simp at hi; omega), r.nd, r.dj, r.fs, r.inc, r.tp⟩
  · by_cases hi : i < T.length
    · rw [List.getElem?_append_left hi] at hc
      obtain ⟨_, h2, _⟩ := r.row i c hc
      obtain ⟨v, e1, e2⟩ := h2 k d e
      exact ⟨v, by unfold L2.start; rw [List.getElem?_append_left (by simp; omega)]; exact e1, e2⟩
    · rw [List.getElem?_append_right (by omega), List.getElem?_replicate] at hc
      split at hc
      · cases hc; cases e
      · cases hc
  · by_cases hi : i < T.length
    · rw [List.getElem?_append_left hi] at hc
      exact (r.row i c hc).2.2 e
    · exact r.out i (by omega)
theorem SR.keepN {n : Nat} {N : List Str} {vs : List V} (r : SR (L2.start N vs) G H σ S F) (hn : vs.length = n) (hl : n ≤ S.length) : SR (vs.map some) G H (vs.map some) (keepN n S) (keepF n S F) := by
  refine ⟨by simp [VL.keepN, hn]; omega, fun i c hc => ⟨fun _ => rfl, fun k d e => ?_, fun e => ?_⟩, fun i hi => ?_, fun i => ?_, fun i j b h1 h2 => r.dj i j b (keepF_sub h1) (keepF_sub h2), fun i b h => r.fs i b (keepF_sub h), r.inc, r.tp⟩
  · unfold VL.keepN at hc
    rw [List.getElem?_map, List.getElem?_take] at hc
    split at hc
    · rename_i hi
      cases hs : S[i]? with
      | none => rw [hs] at hc; cases hc
      | some c0 =>
        rw [hs] at hc
        simp only [Option.map_some] at hc
        obtain ⟨h1, h2, h3⟩ := r.row i c0 hs
        obtain ⟨pin, val⟩ := c0
        cases pin with
        | false => simp at hc; subst hc; cases e
        | true =>
          simp at hc
          subst hc
          obtain ⟨v, e1, e2⟩ := h2 k d e
          rw [h1 rfl] at e1
          refine ⟨v, ?_, by simpa [keepF, hs, hi] using e2⟩
          unfold L2.start at e1
          rw [List.getElem?_append_left (by simp; omega)] at e1
          exact e1
    · cases hc
  · unfold VL.keepN at hc
    rw [List.getElem?_map, List.getElem?_take] at hc
    split at hc
    · rename_i hi
      cases hs : S[i]? with
      | none => rw [hs] at hc; cases hc
      | some c0 =>
        rw [hs] at hc
        simp only [Option.map_some] at hc
        obtain ⟨pin, val⟩ := c0
        cases pin with
        | false => simp [keepF, hs]
        | true =>
          simp at hc
          subst hc
          have := (r.row i _ hs).2.2 e
          simp [keepF, hs, this]
    · cases hc
  · have : n ≤ i := by simp [VL.keepN] at hi; omega
    unfold keepF
    split
    · rw [if_neg (by omega)]
    · rfl
  · unfold keepF
    split
    · split
      · exact r.nd i
      · exact .nil
    · exact .nil
end
section
variable {P : Program} {w : World} {K : PySem.W.Frag} {mg : Str → Option Value} {base : Heap}
theorem fn_ok {x qual : Str} {st : Stmt} {f : Addr} {fd : FuncData} {N ps : List Str} {k : Nat} {gb : Sl → R Out} (Fu : Fun K x qual st f fd) (Sc : FnScope N ps (defScope st)) (hNl : ps.length ≤ N.length)
    (hb : ∀ (cdv : Value) (A : Around) (outer : List Env) (s : Shared) (H : Hp) (E : XK), Room k (A.deeper (envOfC qual (defScope st) s.heap.objs.size f cdv)) →
      VSs (cxOf (L2.CX P w) P w K mg base N qual (defScope st) f cdv A outer s H E) (fun cls d _ H => E cls d H) (defBody st) gb) :
    FnOk P w K mg base (L2.CX P w) (k + 1) f fd ps (SpF ps.length (fnSem ps.length (N.length - ps.length) gb)) := by
  refine Fu.okX Sc (fun vs H Q E h => h.1) fun cdv A outer s H vs Q E hr hsp => ?_
  obtain ⟨t, t1, t2⟩ := hb cdv A outer s H E hr
  refine ⟨t, t1, ?_⟩
  obtain ⟨hn, G, T, F, r, hw⟩ := hsp
  have rs := r.start (N := N) (by omega)
  rw [hn] at rs
  refine t2 (start N vs) (start N vs) G H _ F _ rs ?_
  have gk : ∀ {G' H' : Hp} {S' : Sl} {F' : Fps}, Gr false G H F (T ++ List.replicate (N.length - ps.length) ⟨false, none⟩) G' H' F' S' → Gr false G H F T G' H' (keepF ps.length S' F') (keepN ps.length S') := fun g =>
    ⟨g.up, g.new, g.fr, fun i b h => g.src i b (keepF_sub h), fun h => nomatch h⟩
  have vk : ∀ {G' H' : Hp} {S' : Sl} {F' : Fps} {x : Vl} {v : V} {fp : List Addr}, VP H F G' H' F' x v fp → VP H F G' H' (keepF ps.length S' F') x v fp := fun z =>
    ⟨z.ow, z.nd, z.src, fun hb i b h hf => z.dj hb i b h (keepF_sub hf), z.ns⟩
  unfold fnSem at hw
  cases hg : gb (T ++ List.replicate (N.length - ps.length) ⟨false, none⟩) with
  | stuck => rw [hg] at hw; exact hw.elim
  | err c w' S' =>
    rw [hg] at hw
    simp only at hw
    split at hw
    case isFalse => exact hw.elim
    rename_i hl
    exact fun σ' dd G' H' F' r' g' er => hw dd G' H' _ (r'.keepN hn hl) (gk g') er
  | ok o S' =>
    rw [hg] at hw
    cases o with
    | ct => exact hw.elim
    | bk => exact hw.elim
    | nx =>
      simp only at hw
      split at hw
      case isFalse => exact hw.elim
      rename_i hl
      exact fun σ' G' H' F' r' g' => hw .non [] G' H' _ (r'.keepN hn hl) (gk g') (.fzn rfl)
    | rt x =>
      simp only at hw
      split at hw
      case isFalse => exact hw.elim
      rename_i hl
      exact fun σ' G' H' F' r' g' v fp z => hw v fp G' H' _ (r'.keepN hn hl) (gk g') (vk z)
theorem vtakes {N : List Str} {qual : Str} {scope : Scope} {f : Addr} {cd : Value} {A : Around} {outer : List Env} {s : Shared} {H : Hp} {E : XK} : Takes (cxOf (L2.CX P w) P w K mg base N qual scope f cd A outer s H E) (fun cls d _ H => E cls d H) :=
  takes_of rfl rfl rfl rfl
theorem vpasses {N : List Str} {qual : Str} {scope : Scope} {f : Addr} {cd : Value} {A : Around} {outer : List Env} {s : Shared} {H : Hp} {E : XK} : PassesOwn (model P w) (cxOf (L2.CX P w) P w K mg base N qual scope f cd A outer s H E).A (cxOf (L2.CX P w) P w K mg base N qual scope f cd A outer s H E).env (cxOf (L2.CX P w) P w K mg base N qual scope f cd A outer s H E).xe :=
  passes_of (X := cxOf (L2.CX P w) P w K mg base N qual scope f cd A outer s H E) rfl
end
end VL

set_option Elab.async false
set_option linter.all false
set_option autoImplicit false
set_option maxRecDepth 100000
/-! sorted of tuples, the empty one among them -/
namespace VL
open PySem PySem.Spec L2
open PyProof.Rows hiding St
open PySem.W PySem.Calls PySem.SeqAt

section
variable {prog : Program} {w : World} {A : Around} {E : Value → Shared → Prop} {s : Shared}
theorem call_tuple_lt {Q : Value → Shared → Prop} {l b : Addr} {items items2 : Array Value} {e r : Nat → Bool} (hl : s.heap.IsTuple l items) (hb : s.heap.IsTuple b items2)
    (he : ∀ j (h1 : j < items.size) (h2 : j < items2.size), EqAt A.in1 s items[j] items2[j] (e j)) (hr : ∀ j (h1 : j < items.size) (h2 : j < items2.size), e j = false → RcLt A.in1 s items[j] items2[j] (r j))
    (h : Q (.bool (firstLt e r (decide (items.size < items2.size)) (List.range (min items.size items2.size)))) s) : wpAny (model prog w) A (call (.builtin "tuple.__lt__") [.ref l, .ref b]) Q E s := by
  obtain ⟨⟨cls, dd, data, sl⟩, ho, hc, n, hd⟩ := id hl
  obtain ⟨⟨cls2, dd2, data2, sl2⟩, ho2, hc2, n2, hd2⟩ := id hb
  simp only at hc hd hc2 hd2
  subst hc hd hc2 hd2
  exact call_meets PySem.F.slot_tuple_lt ⟨_, ho, rfl⟩ PySem.F.entry_tuple_lt (PySem.F.args_tuple_lt_2 _ _) (PySem.SeqAt.tuple_ltAt l b items items2 n n2 dd dd2 sl sl2 e r) ⟨ho, ho2, he, hr, h⟩
theorem oneLt_tup {xs ys : List PyData} {a b : Value} {as bs : List Addr} {Q : Bool → Shared → Prop} (ra : Reads s.heap a (.tuple xs) as) (rb : Reads s.heap b (.tuple ys) bs) (hal : alikeAll xs ys = true)
    (hu : A.units + min (PyData.tuple xs).depth (PyData.tuple ys).depth < cLine) (hq : Q (dataLt (.tuple xs) (.tuple ys)) s) : wpAny (model prog w) A (oneLt' true a b) Q E s := by
  cases ra with
  | @tuple l o vs n _ as₁ h1 h2 h3 h4 =>
    cases rb with
    | @tuple l' o' vs' n' _ bs₁ k1 k2 k3 k4 =>
      have n1 : vs.size = xs.length := by simpa using ReadsAll.length _ _ _ h4
      have n2 : vs'.size = ys.length := by simpa using ReadsAll.length _ _ _ k4
      rw [dataLt_tuple, ← firstLt_toks xs ys hal, ← n1, ← n2] at hq
      rw [oneLt'_eq]
      simp only [if_true]
      refine wpAny_bind (wpAny_cRoomFor (room_here hu) ?_)
      refine wpAny_bind (wpAny_callSpecialIfBound?_slot (T := "tuple") ⟨_, h1, h2⟩ PySem.F.slot_tuple_lt (call_tuple_lt (e := pairEq xs ys) (r := fun j => dataLt (xs.getD j .none) (ys.getD j .none)) ⟨_, h1, h2, _, h3⟩ ⟨_, k1, k2, _, k3⟩ (fun j j1 j2 => ?_) (fun j j1 j2 hj => ?_) ?_))
      · have := eqAt_alikeAll xs ys A.in1 s vs.toList vs'.toList _ _ h4 k4 hal (room_in hu) j (by simpa using j1) (by simpa using j2)
        simpa using this
      · have := rcLt_alikeAll xs ys A.in1 s vs.toList vs'.toList _ _ h4 k4 hal (room_in hu) j (by simpa using j1) (by simpa using j2) hj
        simpa using this
      · exact wpAny_truthy_bool hq
theorem firsts_tups : ∀ {vs : List Value} {ds : List PyData}, EachIs (fun v d => ∃ as, Reads s.heap v d as) vs ds → (∀ d, d ∈ ds → ∃ xs, d = .tuple xs) → ∃ fs : List (Option Value), fs.length = vs.length ∧
    (fs.all (·.isSome) = true → ∀ d, d ∈ ds → ∃ x r, d = .tuple (x :: r)) ∧ ∀ (E : Value → Shared → Prop) (Q : List (Option Value) → Shared → Prop), Q fs s → wpAny (model prog w) A (vs.mapM firstOfTuple') Q E s
  | _, _, .nil, _ => ⟨[], rfl, fun _ d hd => absurd hd (by simp), fun E Q h => by rw [List.mapM_nil]; exact wpAny_pure h⟩
  | v :: vs, _, .cons (b := d) ⟨as, r⟩ t, ht => by
    obtain ⟨fs, h1, h2, h3⟩ := firsts_tups t fun d hd => ht d (List.mem_cons_of_mem _ hd)
    obtain ⟨xs, rfl⟩ := ht d (List.mem_cons_self ..)
    cases r with
    | @tuple a o its n _ _ ho hc hd hr =>
      refine ⟨its[0]? :: fs, by simp [h1], fun ha d hdm => ?_, fun E Q h => ?_⟩
      · simp only [List.all_cons, Bool.and_eq_true] at ha
        rcases List.mem_cons.mp hdm with rfl | hdm
        · cases xs with
          | nil =>
            have : its.size = 0 := by simpa using ReadsAll.length _ _ _ hr
            rw [Array.getElem?_eq_none (by omega)] at ha
            simp at ha
          | cons x r => exact ⟨x, r, rfl⟩
        · exact h2 ha.2 d hdm
      · rw [List.mapM_cons, kas_first_eq]
        refine wpAny_bind ?_
        refine wpAny_bind (Looks.here (show Looks (model prog w) s.heap (typeOf (.ref a)) o.cls from (Looks.ld ho).andThen .now) ?_)
        rw [hc, if_neg (by first | decide | simp)]
        refine wpAny_bind (listItems_at ho hd (wpAny_pure ?_))
        exact wpAny_bind (h3 E _ (wpAny_pure h))
theorem SortsAt.tups {vs : List Value} {ds : List PyData} (e : EachIs (fun v d => ∃ as, Reads s.heap v d as) vs ds) (hal : AllAlike ds) (ht : ∀ d, d ∈ ds → ∃ xs, d = .tuple xs) (hu : ∀ d, d ∈ ds → A.units + d.depth < cLine) : SortsAt prog w A s (dataKind s.heap ds) vs := by
  have room : ∀ {d d' : PyData}, d ∈ ds → A.units + min d.depth d'.depth < cLine := fun {d d'} hd => Nat.lt_of_le_of_lt (Nat.add_le_add_left (Nat.min_le_left _ _) _) (hu d hd)
  obtain ⟨fs, f1, f2, f3⟩ := firsts_tups (prog := prog) (w := w) (A := A) e ht
  by_cases hall : fs.all (·.isSome) = true
  · exact SortsAt.data e hal (.inl (f2 hall)) hu
  · refine ⟨fun v hv => ?_, ?_⟩
    · obtain ⟨d, hd, as, r⟩ := e.left v hv
      exact ⟨_, dataKind_some hal hd r⟩
    · by_cases h0 : ((fs.toArray)[0]?.bind id).isSome = true
      · refine ⟨general', ?_, fun h2 E Q hq => ?_⟩
        · intro E x y a b Q ha hb hq
          obtain ⟨d, as, hd, ra, rfl⟩ := dataKind_inv ha
          obtain ⟨d', as', hd', rb, rfl⟩ := dataKind_inv hb
          obtain ⟨xs, rfl⟩ := ht d hd
          show wpAny (model prog w) A (oneLt' false x y) Q E s
          exact oneLt_alike (f := false) (fun h => nomatch h) ra rb (hal _ hd _ hd') (fun h => nomatch h) (room hd) hq
        · rw [keyKind'_eq, List.mapM_toArray, map_eq_pure_bind]
          refine wpAny_bind (wpAny_bind (f3 E _ (wpAny_pure ?_)))
          rw [if_neg (by simpa using hall), if_pos h0]
          exact wpAny_pure hq
      · refine ⟨oneType', ?_, fun h2 E Q hq => ?_⟩
        · intro E x y a b Q ha hb hq
          obtain ⟨d, as, hd, ra, rfl⟩ := dataKind_inv ha
          obtain ⟨d', as', hd', rb, rfl⟩ := dataKind_inv hb
          obtain ⟨xs, rfl⟩ := ht d hd
          obtain ⟨ys, rfl⟩ := ht d' hd'
          rw [keyLt'_oneType]
          exact oneLt_tup ra rb (by simpa [alike] using hal _ hd _ hd') (room (d' := .tuple ys) hd) hq
        · rw [keyKind'_eq, List.mapM_toArray, map_eq_pure_bind]
          refine wpAny_bind (wpAny_bind (f3 E _ (wpAny_pure ?_)))
          rw [if_neg (by simpa using hall), if_neg h0]
          rw [oneTypeOnly'_eq, List.mapM_toArray, map_eq_pure_bind]
          refine wpAny_bind (wpAny_bind (wpAny_bind (kas_mapM (r := Value.type "tuple") _ (fun v hv Q' hq => ?_) (wpAny_pure ?_))))
          · obtain ⟨d, hd, as, r⟩ := e.left v hv
            obtain ⟨xs, rfl⟩ := ht d hd
            exact (looks_reads r).here hq
          · match vs, h2 with
            | [], h2 => simp at h2
            | v0 :: vr, h2 =>
              have hall2 : ((List.map (fun _ => Value.type "tuple") (v0 :: vr)).toArray.all fun x => x == Value.type "tuple") = true := by
                simp only [List.all_toArray, List.all_map, List.all_eq_true]
                intro _ _
                exact beq_self_eq_true _
              have h0' : (List.map (fun _ => Value.type "tuple") (v0 :: vr)).toArray[0]? = some (Value.type "tuple") := by simp
              rw [h0']
              simp only [hall2, if_true]
              exact wpAny_pure (wpAny_pure hq)
theorem collect_tuple {l : Addr} {vs : List Value} {Q : List Value → Shared → Prop} (hl : s.heap.IsTuple l vs.toArray)
    (h : Q vs { s with heap := (s.heap.push (seqObj "list" #[] 0)).update s.heap.objs.size (Obj.mapSeq (· ++ vs.toArray)) }) (hsz : vs.length ≤ sizeLine) :
    wpAny (model prog w) A (collect (.ref l)) Q E s := by
  obtain ⟨o, ho, hc, n, hd⟩ := id hl
  unfold collect
  refine wpAny_bind (wpAny_runValue (codeAny_builtin entry_proto_collect' ?_))
  show wpAny _ _ (do again (.builtin "list.__iadd__" ⟨[← newList [], .ref l], []⟩)) _ _ s
  refine wpAny_bind (wpAny_newList (wpAny_pure ⟨Code.quiet_builtin _ (by decide +kernel), codeAny_builtin entry_list_iadd' ?_⟩) (Nat.zero_le _))
  show wpAny _ _ (Builtin.List.listExtendWith (.ref s.heap.objs.size) (.ref l) (.ref s.heap.objs.size)) _ _ { s with heap := s.heap.push (seqObj "list" #[] 0) }
  unfold Builtin.List.listExtendWith
  have ho' : (s.heap.push (seqObj "list" #[] 0)).get? l = some o := Heap.get?_push_of_some _ ho
  refine wpAny_bind (wpAny_typeOf (T := "tuple") ⟨o, ho', hc⟩ ?_)
  have ht : (Value.type "tuple" == Value.type "tuple") = true := by rfl
  rw [if_pos (by rw [ht]; simp)]
  refine wpAny_bind (listItems_at ho' hd ?_)
  refine wpAny_bind (listItems_at (xs := #[]) (n := 0) (Heap.get?_push_size _ rfl) rfl ?_)
  rw [if_neg (by simp)]
  refine wpAny_bind (listUpdate_at (xs := #[]) (n := 0) (Heap.get?_push_size _ rfl) rfl ?_ (Nat.zero_le _) (by show (#[] ++ vs.toArray).size ≤ sizeLine + 1; simp only [Array.size_append, List.size_toArray, List.length_nil]; omega))
  refine wpAny_pure ?_
  show wpAny (model prog w) A (do
      let o ← load s.heap.objs.size
      match o.data with
      | .seq xs _ => pure xs.toList
      | _ => unsupported "internal:collect") Q E { s with heap := (s.heap.push (seqObj "list" #[] 0)).update s.heap.objs.size (Obj.mapSeq (· ++ vs.toArray)) }
  refine wpAny_bind (wpAny_load (get?_update_seq (Heap.get?_push_size _ rfl) _) ?_)
  show wpAny _ _ (pure ((#[] : Array Value) ++ vs.toArray).toList) Q E _
  rw [show ((#[] : Array Value) ++ vs.toArray).toList = vs by simp]
  exact wpAny_pure h
theorem sorted_valsT {κ : PyProof.Rows.KeyKind} {l : Addr} {vs : List Value} {Q : Value → Shared → Prop} (hl : s.heap.IsTuple l vs.toArray) (S : SortsAt prog w A.in1.in1 { s with heap := sortingHeap (copyHeap s.heap vs) (s.heap.objs.size + 1) vs } κ vs) (hL : vs.length ≤ sizeLine)
    (h : Q (.ref (s.heap.objs.size + 1)) { s with heap := sortedAll s.heap vs (sortVals κ false vs vs).toArray }) : wpAny (model prog w) A (call (.builtin "sorted") [.ref l]) Q E s := by
  refine call_function_entry_kw kind_sorted plain_sorted entry_sorted (args_sorted1 _) ?_
  unfold Builtin.«sorted»
  refine wpAny_bind (m := checkCount "sorted" 1 1 _) (wpAny_pure ?_)
  refine wpAny_bind (collect_tuple hl ?_ hL)
  refine wpAny_bind (wpAny_newList ?_ hL)
  have hsz : ((s.heap.push (seqObj "list" #[] 0)).update s.heap.objs.size (Obj.mapSeq (· ++ vs.toArray))).objs.size = s.heap.objs.size + 1 := by
    rw [Heap.size_update, size_push']
  show wpAny _ _ _ _ _ { s with heap := copyHeap s.heap vs }
  rw [hsz]
  refine wpAny_bind (wpAny_holding (wpAny_call_entry_kw slot_list_sort ⟨_, copyHeap_at s.heap vs, rfl⟩ entry_list_sort ?body (args_list_sort _)))
  case body =>
    show wpAny (model prog w) A.in1.in1 (Builtin.«list.sort» ⟨[.ref (s.heap.objs.size + 1)], []⟩) _ _ _
    refine wpAny_mono (list_sort_vals (P := fun f s' => f = .done (.ret .none) ∧ Q (.ref (s.heap.objs.size + 1)) s') (s := { s with heap := copyHeap s.heap vs }) (copyHeap_at s.heap vs) S hL ⟨rfl, h⟩) (fun f s' hf => ?_) fun _ _ e => e
    obtain ⟨rfl, hq⟩ := hf
    exact ⟨_, rfl, wpAny_pure ⟨_, rfl, hq⟩⟩
theorem sorted_dataT {β : Type} {vs : List Value} {bs : List β} {enc : β → PyData} {R : Value → β → Prop} {l : Addr} {Q : Value → Shared → Prop} (hl : s.heap.IsTuple l vs.toArray) (e : EachIs R vs bs) (er : EachIs (fun v b => ∃ as, Reads s.heap v (enc b) as) vs bs) (hal : AllAlike (bs.map enc)) (hk : Sortable (bs.map enc) ∨ ∀ d, d ∈ bs.map enc → ∃ xs, d = .tuple xs) (hL : bs.length ≤ sizeLine)
    (hu : ∀ b, b ∈ bs → A.units + 2 + (enc b).depth < cLine) (h : ∀ out, out.length = bs.length → EachIs R out (bs.mergeSort (dataLe false enc)) → Q (.ref (s.heap.objs.size + 1)) { s with heap := sortedAll s.heap vs (List.toArray out) }) :
    wpAny (model prog w) A (call (.builtin "sorted") [.ref l]) Q E s := by
  have er' : EachIs (fun v b => ∃ as, Reads (sortingHeap (copyHeap s.heap vs) (s.heap.objs.size + 1) vs) v (enc b) as) vs bs := er.mono fun _ _ ⟨as, r⟩ => ⟨as, PyProof.Rows.Reads.keeps (fun _ _ => sorting_copy_old) r⟩
  refine sorted_valsT hl (κ := dataKind (sortingHeap (copyHeap s.heap vs) (s.heap.objs.size + 1) vs) (bs.map enc)) ?_ (by rw [e.length]; exact hL) (h _ (by rw [sortVals_length false rfl]; exact e.length) (sortVals_data false e er' hal))
  have em := each_map (R := fun v d => ∃ as, Reads (sortingHeap (copyHeap s.heap vs) (s.heap.objs.size + 1) vs) v d as) enc er'
  rcases hk with hk | hk
  · exact SortsAt.data (s := { s with heap := sortingHeap (copyHeap s.heap vs) (s.heap.objs.size + 1) vs }) em hal hk (bound_map hu)
  · exact SortsAt.tups (s := { s with heap := sortingHeap (copyHeap s.heap vs) (s.heap.objs.size + 1) vs }) em hal hk (bound_map hu)
theorem sorted_data' {β : Type} {vs : List Value} {bs : List β} {enc : β → PyData} {R : Value → β → Prop} {l : Addr} {Q : Value → Shared → Prop} (hl : s.heap.IsList l vs.toArray) (e : EachIs R vs bs) (er : EachIs (fun v b => ∃ as, Reads s.heap v (enc b) as) vs bs) (hal : AllAlike (bs.map enc)) (hk : Sortable (bs.map enc) ∨ ∀ d, d ∈ bs.map enc → ∃ xs, d = .tuple xs) (hL : bs.length ≤ sizeLine)
    (hu : ∀ b, b ∈ bs → A.units + 2 + (enc b).depth < cLine) (h : ∀ out, out.length = bs.length → EachIs R out (bs.mergeSort (dataLe false enc)) → Q (.ref (s.heap.objs.size + 1)) { s with heap := sortedAll s.heap vs (List.toArray out) }) :
    wpAny (model prog w) A (call (.builtin "sorted") [.ref l]) Q E s := by
  rcases hk with hk | hk
  · exact sorted_data hl e er hal hk hL hu h
  · have er' : EachIs (fun v b => ∃ as, Reads (sortingHeap (copyHeap s.heap vs) (s.heap.objs.size + 1) vs) v (enc b) as) vs bs := er.mono fun _ _ ⟨as, r⟩ => ⟨as, PyProof.Rows.Reads.keeps (fun _ _ => sorting_copy_old) r⟩
    exact sorted_vals hl (SortsAt.tups (s := { s with heap := sortingHeap (copyHeap s.heap vs) (s.heap.objs.size + 1) vs }) (each_map (R := fun v d => ∃ as, Reads (sortingHeap (copyHeap s.heap vs) (s.heap.objs.size + 1) vs) v d as) enc er') hal hk (bound_map hu)) (by rw [e.length]; exact hL)
      (h _ (by rw [sortVals_length false rfl]; exact e.length) (sortVals_data false e er' hal))
end
end VL

set_option Elab.async false
set_option linter.all false
set_option autoImplicit false
set_option maxRecDepth 100000
namespace VL
open PySem PySem.Spec L2
open PyProof.Rows hiding St

section
variable {X : Cx} {W : WX} {p q : Bool} {e ea eb : Expr} {es : List Expr} {pos : Pos}
variable {σ0 σ : St} {G H G1 H1 G2 H2 : Hp} {F F1 F2 : Fps} {S S1 S2 : Sl}
/-! ### sorted(x), x a list or a tuple of data -/
def rSortedE (K : PySem.W.Frag) : List V → Hp → VK → Prop := fun vs H Q => ∃ (a : Addr) (ps : List (V × D)), vs = [.ref a] ∧ (H a = some (.lst (ps.map (·.1))) ∨ H a = some (.tup (ps.map (·.1)))) ∧ (∀ b ∈ ps, Dp K H b.1 b.2.py) ∧
  PySem.W.AllAlike (ps.map fun b => b.2.py) ∧ (PySem.W.Sortable (ps.map fun b => b.2.py) ∨ ∀ d, d ∈ ps.map (fun b => b.2.py) → ∃ xs, d = .tuple xs) ∧ (∀ b ∈ ps, b.2.py.depth ≤ 60) ∧
  ∀ c, H c = none → Q (.ref c) (upd H c (.lst ((ps.mergeSort (PySem.W.dataLe false fun b => b.2.py)).map (·.1))))
theorem cr_sortedE (hu : X.A.units + 64 < cLine) : CallR X (.builtin "sorted") (rSortedE X.K) := by
  intro pins s σ H vs us Q I r h
  obtain ⟨a, ps, rfl, ha, hd, al, so, dp, q⟩ := h
  rw [Vals.ref1 r]
  have fin : ∀ (its out : List Value), its.length = ps.length → ps.length ≤ sizeLine → PySem.W.EachIs (fun u b => RelV b.1 u) out (ps.mergeSort (PySem.W.dataLe false fun b => b.2.py)) → EP X pins σ Q (.ref (s.heap.objs.size + 1)) { s with heap := sortedAll s.heap its out.toArray } := fun its out hl hz h2 => by
    obtain ⟨ep, he'⟩ := PyProof.Rows.sortedAll_at s.heap its out.toArray
    have hlen : ((ps.mergeSort (PySem.W.dataLe false fun b => b.2.py)).map (·.1)).length ≤ sizeLine := by rw [List.length_map, (List.mergeSort_perm _ _).length_eq]; exact hz
    exact ⟨.ref _, upd H (s.heap.objs.size + 1) (.lst _), I.laid (t' := s.toks) (fun _ _ => PyProof.Rows.sortedAll_old) (Nat.le_succ _) ⟨hlen, out, ep, vals_of_each h2, by simpa using he'⟩, rfl, q _ (I.hok.fresh (Nat.le_succ _))⟩
  rcases ha with ha | ha
  · obtain ⟨its, rv, hl, hz⟩ := I.list (.of ha)
    rw [List.length_map] at hz
    exact sorted_data' (R := fun u b => RelV b.1 u) (enc := fun b : V × D => b.2.py) hl.isList (each_of_vals rv fun b _ u h => h) (each_of_vals rv fun b hb u h => Dp.reads I _ _ u (hd b hb) h) al so hz (fun b hb => by have := dp b hb; omega) fun out h1 h2 => fin its out (by rw [← rv.length, List.length_map]) hz h2
  · obtain ⟨its, rv, hl, hz⟩ := I.tuple (.of ha)
    rw [List.length_map] at hz
    exact sorted_dataT (R := fun u b => RelV b.1 u) (enc := fun b : V × D => b.2.py) hl (each_of_vals rv fun b _ u h => h) (each_of_vals rv fun b hb u h => Dp.reads I _ _ u (hd b hb) h) al so hz (fun b hb => by have := dp b hb; omega) fun out h1 h2 => fin its out (by rw [← rv.length, List.length_map]) hz h2
def D.isTup : D → Bool
  | .tup _ => true
  | _ => false
def D.isTup1 : D → Bool
  | .tup (_ :: _) => true
  | _ => false
def sortOk (ds : List D) : Bool := lineOk ds && ds.all D.plain && (ds.all fun a => ds.all fun b => PySem.W.alike a.py b.py) && (ds.all D.isTup || ds.all fun d => !d.isTup && !d.isNon) && ds.all fun d => decide (d.py.depth ≤ 60)
def dSorted (x : D) : Option (List D) := match x.items with
  | some ds => if sortOk ds then some (ds.mergeSort (PySem.W.dataLe false D.py)) else none
  | none => none
theorem fzL_zip : ∀ {ds : List D} {vs : List V}, FzL G ds vs → ∃ ps : List (V × D), ps.map (·.1) = vs ∧ ps.map (·.2) = ds ∧ ∀ b ∈ ps, Fz G b.2 b.1
  | [], vs, h => by simp only [FzL] at h; subst h; exact ⟨[], rfl, rfl, by simp⟩
  | d :: ds, vs, h => by
    simp only [FzL] at h
    obtain ⟨v, r, rfl, h1, h2⟩ := h
    obtain ⟨ps, e1, e2, e3⟩ := fzL_zip h2
    refine ⟨(v, d) :: ps, by simp [e1], by simp [e2], fun b hb => ?_⟩
    rcases List.mem_cons.mp hb with rfl | hb
    · exact h1
    · exact e3 b hb
theorem fzL_of_pairs : ∀ {ps : List (V × D)}, (∀ b ∈ ps, Fz G b.2 b.1) → FzL G (ps.map (·.2)) (ps.map (·.1))
  | [], _ => .nil
  | b :: ps, h => .cons (h b (by simp)) (fzL_of_pairs fun c hc => h c (by simp [hc]))
theorem plain_tup {d : D} (h : d.plain = true) (ht : d.isTup = true) : ∃ xs, d.py = .tuple xs := by
  cases d <;> first | (cases ht; done) | exact ⟨_, rfl⟩
theorem plain_not {d : D} (h : d.plain = true) (ht : d.isTup = false) (hn : d.isNon = false) : d.py ≠ .none ∧ ∀ xs, d.py ≠ .tuple xs := by
  cases d <;> first | (cases ht; done) | (cases hn; done) | (simp [D.plain] at h; done) | (constructor <;> simp [D.py])
theorem cn_sorted : CallN (rSortedE X.K) dSorted := by
  intro x ds hd G H v Q z m k
  unfold dSorted at hd
  cases hi : x.items with
  | none => rw [hi] at hd; cases hd
  | some xs =>
    rw [hi] at hd
    simp only at hd
    split at hd
    case isFalse => cases hd
    rename_i hc
    cases hd
    unfold sortOk at hc
    simp only [Bool.and_eq_true, List.all_eq_true, decide_eq_true_eq, Bool.or_eq_true, Bool.not_eq_true'] at hc
    obtain ⟨⟨⟨⟨hl, hp⟩, hal⟩, hs⟩, hdp⟩ := hc
    obtain ⟨a, vs, rfl, ha, fa⟩ : ∃ a vs, v = .ref a ∧ (H a = some (.lst vs) ∨ H a = some (.tup vs)) ∧ FzL G xs vs := by
      cases x <;> simp only [D.items] at hi <;> cases hi
      · obtain ⟨a, vs, e, h1, h2⟩ := z.lst m
        exact ⟨a, vs, e, .inl h1, h2⟩
      · obtain ⟨a, vs, e, h1, h2⟩ := z.tup m
        exact ⟨a, vs, e, .inr h1, h2⟩
    obtain ⟨ps, rfl, rfl, e3⟩ := fzL_zip fa
    have hm : ∀ d, d ∈ ps.map (fun b => b.2.py) → ∃ b ∈ ps, b.2.py = d := fun d hd => by simpa using hd
    refine ⟨a, ps, rfl, ha, fun b hb => ((e3 b hb).inc m).dp b.2 b.1 (hp _ (List.mem_map.mpr ⟨b, hb, rfl⟩)), fun d hd d' hd' => ?_, ?_, fun b hb => hdp _ (List.mem_map.mpr ⟨b, hb, rfl⟩), fun c hc => ?_⟩
    · obtain ⟨b, hb, rfl⟩ := hm d hd
      obtain ⟨b', hb', rfl⟩ := hm d' hd'
      exact hal _ (List.mem_map.mpr ⟨b, hb, rfl⟩) _ (List.mem_map.mpr ⟨b', hb', rfl⟩)
    · rcases hs with hs | hs
      · refine .inr fun d hd => ?_
        obtain ⟨b, hb, rfl⟩ := hm d hd
        exact plain_tup (hp _ (List.mem_map.mpr ⟨b, hb, rfl⟩)) (hs _ (List.mem_map.mpr ⟨b, hb, rfl⟩))
      · refine .inl (.inr fun d hd => ?_)
        obtain ⟨b, hb, rfl⟩ := hm d hd
        obtain ⟨h1, h2⟩ := hs _ (List.mem_map.mpr ⟨b, hb, rfl⟩)
        exact plain_not (hp _ (List.mem_map.mpr ⟨b, hb, rfl⟩)) h1 h2
    · have e : (ps.map (·.2)).mergeSort (PySem.W.dataLe false D.py) = (ps.mergeSort (PySem.W.dataLe false fun b => b.2.py)).map (·.2) :=
        (PySem.W.sort_maps (fun b : V × D => b.2) (fun _ _ _ _ => rfl)).symm
      rw [e] at k
      exact k _ c (fzL_of_pairs fun b hb => e3 b ((List.mergeSort_perm _ _).mem_iff.mp hb)) hc
end
end VL

set_option Elab.async false
set_option linter.all false
set_option autoImplicit false
set_option maxRecDepth 100000
namespace VL
open PySem PySem.Spec L2
open PyProof.Rows hiding St

/-! ## how many items are different -/
def nub {α : Type} [DecidableEq α] : List α → List α
  | [] => []
  | x :: xs => if x ∈ xs then nub xs else x :: nub xs
theorem mem_nub {α : Type} [DecidableEq α] : ∀ {l : List α} {x : α}, x ∈ nub l ↔ x ∈ l
  | [], x => by simp [nub]
  | y :: l, x => by
    unfold nub
    split
    · rw [mem_nub (l := l)]
      rename_i h
      constructor
      · exact fun h => List.mem_cons_of_mem _ h
      · intro h'
        rcases List.mem_cons.mp h' with rfl | h'
        · exact h
        · exact h'
    · rw [List.mem_cons, List.mem_cons, mem_nub (l := l)]
theorem nodup_nub {α : Type} [DecidableEq α] : ∀ l : List α, (nub l).Nodup
  | [] => .nil
  | y :: l => by
    unfold nub
    split
    · exact nodup_nub l
    · rename_i h
      exact List.nodup_cons.mpr ⟨fun h' => h (mem_nub.mp h'), nodup_nub l⟩
theorem nodup_le {α : Type} [DecidableEq α] : ∀ (l m : List α), l.Nodup → (∀ x ∈ l, x ∈ m) → l.length ≤ m.length
  | [], m, _, _ => Nat.zero_le _
  | x :: l, m, hn, h => by
    obtain ⟨h1, h2⟩ := List.nodup_cons.mp hn
    have hx := h x (by simp)
    have := nodup_le l (m.erase x) h2 fun y hy => (List.mem_erase_of_ne (fun e : y = x => h1 (by rw [← e]; exact hy))).mpr (h y (by simp [hy]))
    rw [List.length_erase_of_mem hx] at this
    have hp : 0 < m.length := List.length_pos_of_mem hx
    simp only [List.length_cons]
    omega
theorem nodup_eq {α : Type} [DecidableEq α] {l m : List α} (hl : l.Nodup) (hm : m.Nodup) (h : ∀ x, x ∈ l ↔ x ∈ m) : l.length = m.length :=
  Nat.le_antisymm (nodup_le l m hl fun x hx => (h x).mp hx) (nodup_le m l hm fun x hx => (h x).mpr hx)
theorem firstMet_ok (f : Nat → Int) : ∀ i, (firstMet f i).Nodup ∧ ∀ x, x ∈ firstMet f i ↔ ∃ j, j < i ∧ f j = x
  | 0 => ⟨.nil, fun x => ⟨(fun h => nomatch h), fun ⟨j, hj, _⟩ => absurd hj (Nat.not_lt_zero _)⟩⟩
  | i + 1 => by
    obtain ⟨h1, h2⟩ := firstMet_ok f i
    rw [firstMet_succ]
    unfold step_dedup
    split
    · rename_i h
      refine ⟨h1, fun x => ?_⟩
      rw [h2]
      constructor
      · exact fun ⟨j, hj, e⟩ => ⟨j, Nat.lt_succ_of_lt hj, e⟩
      · rintro ⟨j, hj, e⟩
        rcases Nat.lt_or_ge j i with hlt | hge
        · exact ⟨j, hlt, e⟩
        · have : j = i := by omega
          subst this
          obtain ⟨y, hy, e2⟩ := List.any_eq_true.mp h
          have e3 : y = f j := by simpa using e2
          obtain ⟨k, hk, e4⟩ := (h2 y).mp hy
          exact ⟨k, hk, by rw [e4, e3, e]⟩
    · rename_i h
      refine ⟨List.nodup_append.mpr ⟨h1, by simp, fun a ha b hb e => ?_⟩, fun x => ?_⟩
      · have : b = f i := by simpa using hb
        subst this
        subst e
        exact h (List.any_eq_true.mpr ⟨_, ha, by simp⟩)
      · rw [List.mem_append, h2]
        constructor
        · rintro (⟨j, hj, e⟩ | hx)
          · exact ⟨j, Nat.lt_succ_of_lt hj, e⟩
          · exact ⟨i, Nat.lt_succ_self i, (by simpa using hx : x = f i).symm⟩
        · rintro ⟨j, hj, e⟩
          rcases Nat.lt_or_ge j i with hlt | hge
          · exact .inl ⟨j, hlt, e⟩
          · have : j = i := by omega
            subst this
            exact .inr (by simp [e])
theorem firstMet_len (ns : List Int) : (firstMet (fun i => ns.getD i 0) ns.length).length = (nub ns).length := by
  obtain ⟨h1, h2⟩ := firstMet_ok (fun i => ns.getD i 0) ns.length
  refine nodup_eq h1 (nodup_nub ns) fun x => ?_
  rw [h2, mem_nub]
  constructor
  · rintro ⟨j, hj, e⟩
    rw [List.getD_eq_getElem?_getD, List.getElem?_eq_getElem hj] at e
    exact e ▸ List.getElem_mem hj
  · intro h
    obtain ⟨j, hj, e⟩ := List.getElem_of_mem h
    exact ⟨j, hj, by rw [List.getD_eq_getElem?_getD, List.getElem?_eq_getElem hj]; exact e⟩
/-- tuples of ints -/
def D.tints : List D → Option (List (List Int))
  | [] => some []
  | .tup xs :: ds => match D.ints xs, D.tints ds with
    | some ns, some r => some (ns :: r)
    | _, _ => none
  | _ => none
theorem D.tints_map : ∀ {ds : List D} {ks : List (List Int)}, D.tints ds = some ks → ds = ks.map fun k => D.tup (k.map D.int)
  | [], ks, h => by cases h; rfl
  | .tup xs :: ds, ks, h => by
    simp only [D.tints] at h
    split at h
    · rename_i ns r h1 h2
      cases h
      rw [D.ints_map h1, D.tints_map h2]
      rfl
    · cases h
  | .int _ :: _, _, h => by cases h
  | .non :: _, _, h => by cases h
  | .bl _ :: _, _, h => by cases h
  | .str _ :: _, _, h => by cases h
  | .ty _ :: _, _, h => by cases h
  | .lst _ :: _, _, h => by cases h
  | .dK _ _ :: _, _, h => by cases h
  | .dT _ _ :: _, _, h => by cases h
  | .obj _ _ _ :: _, _, h => by cases h
  | .exc _ _ _ _ :: _, _, h => by cases h
  | .kl _ _ _ :: _, _, h => by cases h
def dLenSet : D → Option D
  | .lst ds => if ds.length < 64 then (match D.ints ds with
    | some ns => some (.int (nub ns).length)
    | none => (match D.tints ds with
      | some ks => some (.int (nub ks).length)
      | none => none)) else none
  | _ => none
section
variable {X : Cx} {W : WX} {p q : Bool} {e ea eb : Expr} {es : List Expr} {pos : Pos}
variable {σ0 σ : St} {G H G1 H1 G2 H2 : Hp} {F F1 F2 : Fps} {S S1 S2 : Sl}
def rLenSet (K : PySem.W.Frag) (x : V) (H : Hp) (Q : VK) : Prop := (∃ (l : Addr) (ns : List Int), x = V.ref l ∧ SqL K H l (ns.map V.int) ∧ ns.length < 64 ∧ Q (.int (nub ns).length) H) ∨
  ∃ (l : Addr) (ks : List (Addr × List Int)), x = V.ref l ∧ SqL K H l (ks.map fun p => V.ref p.1) ∧ (∀ p ∈ ks, SqT K H p.1 (p.2.map V.int)) ∧ ks.length < 64 ∧ Q (.int (nub (ks.map (·.2))).length) H
theorem pe_lenSet {a : Expr} {ta : TE} {p p2 q pos : Pos} (hc : X.calm = true) (hu : X.A.units + 64 < cLine) (hg : Gl X "len") (hm : X.mg "len" = none) (hg2 : Gl X "set") (hm2 : X.mg "set" = none) (ha : PE X a ta)
    (na : starEach [a] X.env = (false, eval a X.env) :: starEach [] X.env := by rfl) : PE X (.Call (.Name "len" p) [.Call (.Name "set" p2) [a] [] q] [] pos) (fun σ H Q => ta σ H fun x H1 => rLenSet X.K x H1 Q) := by
  refine ⟨fun pins s σ H Q I h => ?_⟩
  refine Call_ (ld_blt I hg hm PySem.boot_len ?_)
  refine PyProof.Rows.callWith_builtin1 (PyProof.Rows.args_cons ?_ rfl) rfl rfl
  refine Call_ (ld_blt I hg2 hm2 PyProof.Rows.boot_set ?_)
  refine PyProof.Rows.callWith_type1 (PyProof.Rows.args_cons (thn (ha.run pins s σ H _ I h) fun v s1 ⟨x, H1, I1, r1, q1⟩ => PyProof.Rows.args_nil ?_) na) na rfl
  rcases q1 with ⟨l, ns, rfl, hq, h1, q1⟩ | ⟨l, ks, rfl, hq, hk, h1, q1⟩
  · cases r1
    obtain ⟨its, r, pl, hz⟩ := I1.list hq
    have hl : its.toArray.size = ns.length := by rw [List.size_toArray, ← r.length, List.length_map]
    refine call_set_list (I1.ok.hd hc) pl.isList (ns := ns) (by simpa using r.ints) (by unfold scanBound; omega) fun h' tk hS hk => ?_
    refine PyProof.Rows.args_nil ?_
    obtain ⟨o, es, ep, t, ho, hex, hd, _, _, _, hf, hn⟩ := hS
    have I2 : Inv X pins σ H1 { s1 with heap := h', toks := tk } := I1.kept fun b o e => hk b o (Heap.lt_size e) e
    rw [hl, firstMet_len] at hn
    have hle : (nub ns).length ≤ ns.length := nodup_le _ _ (nodup_nub ns) fun x hx => mem_nub.mp hx
    refine call_len_set ho hex hd hf (by rw [hn] <;> omega) ⟨.int (nub ns).length, H1, I2.tok _, ⟨_, by rw [hn]⟩, q1⟩
  · cases r1
    obtain ⟨its, rv, pl, hz⟩ := I1.list hq
    refine call_set_tups (P := X.prog) (w := X.w) ks (I1.ok.hd hc) pl.isList (by simpa using refs_of_vals rv) (fun p hp => I1.isT (hk p hp)) h1 (by omega) fun h' tk L es ep t R g k => ?_
    refine PyProof.Rows.args_nil ?_
    obtain ⟨o, ho, hex, hd⟩ := R.ob
    have I2 : Inv X pins σ H1 { s1 with heap := h', toks := tk } := I1.kept k
    have hn : es.size = (nub (ks.map (·.2))).length := by
      rw [SetTR.size (s := { s1 with heap := h' }) R]
      have : (L.map (·.2)).length = (nub (ks.map (·.2))).length := nodup_eq R.nd (nodup_nub _) fun x => by
        rw [mem_nub]
        constructor
        · intro hx
          obtain ⟨p, hp, rfl⟩ := List.mem_map.mp hx
          exact List.mem_map.mpr ⟨p, List.mem_of_mem_take (g.sub p hp), rfl⟩
        · intro hx
          obtain ⟨p, hp, rfl⟩ := List.mem_map.mp hx
          exact g.all p (by rw [List.take_length]; exact hp)
      rw [← this, List.length_map]
    have hle : (nub (ks.map (·.2))).length ≤ ks.length := by
      have := nodup_le _ _ (nodup_nub (ks.map (·.2))) fun x hx => mem_nub.mp hx
      rwa [List.length_map] at this
    exact call_len_set ho hex hd (SetTR.fits (s := { s1 with heap := h' }) R) (by rw [hn] <;> omega) ⟨.int (nub (ks.map (·.2))).length, H1, I2.tok _, ⟨_, by rw [hn]⟩, q1⟩
def gLenSet (g : Sl → R Vl) : Sl → R D := fun S => (g S).bind fun x S1 => if x.lev then (match dLenSet x.d with | some d => .ok d S1 | none => .stuck) else .stuck
theorem fzL_tints : ∀ {ks : List (List Int)} {vs : List V}, FzL G (ks.map fun k => D.tup (k.map D.int)) vs → ∃ ps : List (Addr × List Int), vs = ps.map (fun p => V.ref p.1) ∧ ps.map (·.2) = ks ∧ ∀ p ∈ ps, G p.1 = some (.tup (p.2.map V.int))
  | [], vs, h => by
    have : vs = [] := by simpa [FzL] using h
    exact ⟨[], by simp [this], rfl, by simp⟩
  | k :: ks, vs, h => by
    simp only [List.map_cons, FzL] at h
    obtain ⟨v, r, rfl, h1, h2⟩ := h
    obtain ⟨ps, e1, e2, e3⟩ := fzL_tints h2
    simp only [Fz] at h1
    obtain ⟨a, us, rfl, ha, hu⟩ := h1
    rw [hu.ints] at ha
    refine ⟨(a, k) :: ps, by simp [e1], by simp [e2], fun p hp => ?_⟩
    rcases List.mem_cons.mp hp with rfl | hp
    · exact ha
    · exact e3 p hp
theorem vd_lenSet {a : Expr} {g : Sl → R Vl} {p1 p2 q1 : Pos} (h : VE p X W a g) (hc : X.calm = true) (hu : X.A.units + 64 < cLine) (hg : Gl X "len" := by rfl) (hm : X.mg "len" = none) (hg2 : Gl X "set" := by rfl) (hm2 : X.mg "set" = none)
    (na : starEach [a] X.env = (false, eval a X.env) :: starEach [] X.env := by rfl) : VD p X W (.Call (.Name "len" p1) [.Call (.Name "set" p2) [a] [] q1] [] pos) (gLenSet g) := by
  obtain ⟨t, t1, t2⟩ := h
  refine ⟨_, pe_lenSet hc hu hg hm hg2 hm2 t1 na, fun σ0 σ G H S F Q r hw => ?_⟩
  refine VE.then (t := t) t2 r hw fun x S1 v fp G1 H1 F1 r1 g1 z1 hw1 => ?_
  split at hw1
  case isFalse => exact hw1.elim
  rename_i hl
  cases hd : dLenSet x.d with
  | none => rw [hd] at hw1; exact hw1.elim
  | some d =>
    rw [hd] at hw1
    have z := z1.rv1 hl
    generalize x.d = y at hd z
    cases y <;> simp only [dLenSet] at hd <;> first | (cases hd; done) | skip
    rename_i ds
    split at hd
    case isFalse => cases hd
    rename_i h64
    obtain ⟨b, vs, rfl, hb, fb⟩ := z.lst r1.inc
    cases hi : D.ints ds with
    | some ns =>
      rw [hi] at hd
      cases hd
      rw [D.ints_map hi] at fb h64
      rw [fb.ints] at hb
      exact .inl ⟨b, ns, rfl, .of hb, by simpa using h64, hw1 _ G1 H1 F1 r1 g1 rfl⟩
    | none =>
      rw [hi] at hd
      cases ht : D.tints ds with
      | none => rw [ht] at hd; cases hd
      | some ks =>
        rw [ht] at hd
        cases hd
        rw [D.tints_map ht] at fb h64
        obtain ⟨ps, rfl, rfl, e3⟩ := fzL_tints fb
        exact .inr ⟨b, ps, rfl, .of hb, fun p hp => .of (r1.inc _ _ (e3 p hp)), by simpa using h64, hw1 _ G1 H1 F1 r1 g1 rfl⟩
end
end VL

set_option Elab.async false
set_option linter.all false
set_option autoImplicit false
set_option maxRecDepth 100000
namespace VL
open PySem PySem.Spec L2
open PyProof.Rows hiding St

section
variable {X : Cx} {W : WX} {p q p' : Bool} {e ea eb : Expr} {es : List Expr} {pos : Pos}
variable {σ0 σ : St} {G H G1 H1 G2 H2 : Hp} {F F1 F2 : Fps} {S S1 S2 : Sl}

/-! ### types as values, isinstance -/
theorem vd_type {x : Str} {n : String} (hg : Gl X x := by rfl) (hm : X.mg x = none) (hv : bootBuiltins x = some (.type n)) (hn : x ≠ "__name__" := by decide) (hd : (x == ("__debug__" : Str)) = false := by decide) : VD true X W (.Name x pos) (gC (.ty n)) :=
  vd_c (v := .ty n) (pe_bltn hg hm hv rfl hn hd) fun _ => rfl
def tyName : D → Option String
  | .non => some "NoneType"
  | .bl _ => some "bool"
  | .int _ => some "int"
  | .str _ => some "str"
  | .lst _ => some "list"
  | .tup _ => some "tuple"
  | .dK _ _ => some "dict"
  | _ => none
def tyDom : List String := ["int", "str", "bool", "list", "tuple", "dict"]
def isiB (t n : String) : Bool := t == n || (t == "bool" && n == "int")
theorem isiB_kit : ∀ t ∈ "NoneType" :: tyDom, ∀ n ∈ tyDom, kitB t n = some (isiB t n) := by decide +kernel
def isiAny (t : String) : List D → Option Bool
  | [] => some false
  | .ty n :: r => if tyDom.contains n then (isiAny t r).map (isiB t n || ·) else none
  | _ => none
def dIsi : List D → Option D
  | [x, .ty n] => if tyDom.contains n then (tyName x).map fun t => .bl (isiB t n) else none
  | [x, .tup cs] => (tyName x).bind fun t => (isiAny t cs).map .bl
  | _ => none
theorem tyName_dom {x : D} {t : String} (h : tyName x = some t) : t ∈ "NoneType" :: tyDom := by
  cases x <;> simp only [tyName] at h <;> cases h <;> decide
theorem tyName_ty {K : PySem.W.Frag} {x : D} {t : String} {v : V} (h : tyName x = some t) (z : Fz G x v) (m : Inc G H) : TyX K H v (.type t) := by
  cases x <;> simp only [tyName] at h <;> first | (cases h; done) | skip
  all_goals (cases h; simp only [Fz] at z)
  · subst z; exact .base .non
  · subst z; exact .base (.bl _)
  · subst z; exact .base (.int _)
  · subst z; exact .base (.str _)
  · obtain ⟨a, vs, rfl, ha, _⟩ := z; exact .base (.lst (m _ _ ha))
  · obtain ⟨a, vs, rfl, ha, _⟩ := z; exact .base (.tup (m _ _ ha))
  · obtain ⟨a, vs, rfl, ha, _⟩ := z
    rcases ha with ha | ⟨o, ha⟩
    · exact .base (.dK (m _ _ ha))
    · exact .fDict (m _ _ ha)
theorem isiAny_ok {K : PySem.W.Frag} {t : String} (ht : t ∈ "NoneType" :: tyDom) : ∀ {cs : List D} {vs : List V} {b : Bool}, isiAny t cs = some b → FzL G cs vs → ∃ us, Paired ClsV vs us ∧ PySem.W.kitAny K (.type t) us = some b
  | [], vs, b, h, z => by
    cases h
    simp only [FzL] at z
    subst z
    exact ⟨[], .nil, kitAny_nil⟩
  | .ty n :: r, vs, b, h, z => by
    simp only [isiAny] at h
    simp only [FzL, Fz] at z
    obtain ⟨v, vr, rfl, rfl, z2⟩ := z
    split at h
    case isFalse => cases h
    rename_i hn
    have hn : n ∈ tyDom := by simpa using hn
    have hk := kit_ty (K := K) (isiB_kit t ht n hn)
    obtain ⟨b', h', e⟩ := Option.map_eq_some_iff.mp h
    obtain ⟨us, h1, h2⟩ := isiAny_ok ht h' z2
    refine ⟨.type n :: us, .cons (.ty n) h1, kitAny_cons hk (fun e' => ?_) fun e' => ?_⟩
    · rw [e'] at e; rw [h2, ← e]; rfl
    · rw [e'] at e; rw [← e]; rfl
  | .non :: _, _, _, h, _ => by cases h
  | .bl _ :: _, _, _, h, _ => by cases h
  | .int _ :: _, _, _, h, _ => by cases h
  | .str _ :: _, _, _, h, _ => by cases h
  | .lst _ :: _, _, _, h, _ => by cases h
  | .tup _ :: _, _, _, h, _ => by cases h
  | .dK _ _ :: _, _, _, h, _ => by cases h
  | .dT _ _ :: _, _, _, h, _ => by cases h
  | .obj _ _ _ :: _, _, _, h, _ => by cases h
  | .exc _ _ _ _ :: _, _, _, h, _ => by cases h
  | .kl _ _ _ :: _, _, _, h, _ => by cases h
theorem callR_or {f : Value} {r r' : List V → Hp → VK → Prop} (h : CallR X f r) (h' : CallR X f r') : CallR X f (fun vs H Q => r vs H Q ∨ r' vs H Q) :=
  fun pins s σ H xs us Q I rv q => q.elim (h pins s σ H xs us Q I rv) (h' pins s σ H xs us Q I rv)
theorem cd_isi {K : PySem.W.Frag} : CallD (fun vs H Q => rIsi K vs H Q ∨ rIsiT K vs H Q) dIsi := by
  intro ds d hd G H vs Q z m k
  match ds, hd with
  | [x, .ty n], hd =>
    simp only [dIsi] at hd
    split at hd
    case isFalse => cases hd
    rename_i hn
    have hn : n ∈ tyDom := by simpa using hn
    obtain ⟨t, ht, rfl⟩ := Option.map_eq_some_iff.mp hd
    obtain ⟨v, u, rfl, zx, zt⟩ := fzL2 z
    simp only [Fz] at zt
    subst zt
    exact .inl ⟨v, .ty n, .type t, .type n, isiB t n, rfl, .ty n, tyName_ty ht zx m, kit_ty (isiB_kit t (tyName_dom ht) n hn), k _ rfl⟩
  | [x, .tup cs], hd =>
    simp only [dIsi] at hd
    obtain ⟨t, ht, h2⟩ := Option.bind_eq_some_iff.mp hd
    obtain ⟨b, hb, rfl⟩ := Option.map_eq_some_iff.mp h2
    obtain ⟨v, u, rfl, zx, zt⟩ := fzL2 z
    simp only [Fz] at zt
    obtain ⟨a, us, rfl, ha, hu⟩ := zt
    obtain ⟨ws, h1, h3⟩ := isiAny_ok (K := K) (tyName_dom ht) hb hu
    exact .inr ⟨v, a, us, .type t, ws, b, rfl, m _ _ ha, h1, tyName_ty ht zx m, h3, k _ rfl⟩

/-! ### is True, is False -/
def rIsBl (neg : Bool) : R2 := fun x y H Q => ∃ c, y = .bl c ∧ ((∃ b, x = .bl b ∧ Q (.bl (if neg then !(b == c) else b == c)) H) ∨ (x = .non ∧ Q (.bl neg) H))
theorem op_isBl : OpR X (compareOp .Is) (rIsBl false) := by
  intro pins s σ H x y v u Q I rx ry h
  obtain ⟨c, rfl, h⟩ := h
  cases ry
  rcases h with ⟨b, rfl, q⟩ | ⟨rfl, q⟩
  · cases rx
    exact PyProof.Rows.is_bool (fin_bl I q rfl)
  · cases rx
    exact wpAny_pure (fin_bl I q rfl)
theorem op_isnotBl : OpR X (compareOp .IsNot) (rIsBl true) := by
  intro pins s σ H x y v u Q I rx ry h
  obtain ⟨c, rfl, h⟩ := h
  cases ry
  rcases h with ⟨b, rfl, q⟩ | ⟨rfl, q⟩
  · cases rx
    cases b <;> cases c <;> exact wpAny_pure (fin_bl I q rfl)
  · cases rx
    exact wpAny_pure (fin_bl I q rfl)
def dIsBl (neg : Bool) : D → D → Option D := fun x y => match x, y with
  | .bl b, .bl c => some (.bl (if neg then !(b == c) else b == c))
  | .non, .bl _ => some (.bl neg)
  | _, _ => none
theorem opd_isBl {neg : Bool} : OpD (rIsBl neg) (dIsBl neg) := by
  intro x y d hd G H v u Q zx zy _ k
  cases x <;> cases y <;> simp only [dIsBl] at hd <;> first | (cases hd; done) | skip
  all_goals (cases hd; simp only [Fz] at zx zy)
  · exact ⟨_, zy, .inr ⟨zx, k _ rfl⟩⟩
  · exact ⟨_, zy, .inl ⟨_, zx, k _ rfl⟩⟩

/-! ### choices told by the slots -/
theorem pe_or {t u : TE} (a : PE X e t) (b : PE X e u) : PE X e (fun σ H Q => t σ H Q ∨ u σ H Q) := ⟨fun pins s σ H Q I h => h.elim (a.run pins s σ H Q I) (b.run pins s σ H Q I)⟩
theorem ps_or {st : Stmt} {t u : TS} (a : PS X st t) (b : PS X st u) : PS X st (fun D σ H => t D σ H ∨ u D σ H) := ⟨fun pins s σ H D I h => h.elim (a.run pins s σ H D I) (b.run pins s σ H D I)⟩
theorem VE.alt (c : Sl → Bool) {g g' : Sl → R Vl} (a : VE p X W e g) (b : VE p X W e g') : VE p X W e (fun S => if c S then g S else g' S) := by
  obtain ⟨t, a1, a2⟩ := a
  obtain ⟨u, b1, b2⟩ := b
  refine ⟨_, pe_or a1 b1, fun σ0 σ G H S F Q r hw => ?_⟩
  simp only at hw
  split at hw
  · exact .inl (a2 σ0 σ G H S F Q r hw)
  · exact .inr (b2 σ0 σ G H S F Q r hw)
theorem VD.alt (c : Sl → Bool) {g g' : Sl → R D} (a : VD p X W e g) (b : VD p X W e g') : VD p X W e (fun S => if c S then g S else g' S) := by
  obtain ⟨t, a1, a2⟩ := a
  obtain ⟨u, b1, b2⟩ := b
  refine ⟨_, pe_or a1 b1, fun σ0 σ G H S F Q r hw => ?_⟩
  simp only at hw
  split at hw
  · exact .inl (a2 σ0 σ G H S F Q r hw)
  · exact .inr (b2 σ0 σ G H S F Q r hw)
theorem VS.alt (c : Sl → Bool) {st : Stmt} {g g' : Sl → R Out} (a : VS X W st g) (b : VS X W st g') : VS X W st (fun S => if c S then g S else g' S) := by
  obtain ⟨t, a1, a2⟩ := a
  obtain ⟨u, b1, b2⟩ := b
  refine ⟨_, ps_or a1 b1, fun σ0 σ G H S F D r hw => ?_⟩
  simp only at hw
  split at hw
  · exact .inl (a2 σ0 σ G H S F D r hw)
  · exact .inr (b2 σ0 σ G H S F D r hw)

/-! ### dicts -/
def keyD : D → Option Key
  | .int i => some (.inl i)
  | .str z => some (.inr z)
  | _ => none
def keysD : List D → Option (List Key)
  | [] => some []
  | d :: ds => match keyD d, keysD ds with
    | some k, some r => some (k :: r)
    | _, _ => none
def kD : Key → D
  | .inl i => .int i
  | .inr z => .str z
theorem keyD_ok {d : D} {k : Key} (h : keyD d = some k) : d = kD k := by
  cases d <;> simp only [keyD] at h <;> cases h <;> rfl
theorem keysD_ok : ∀ {ds : List D} {ks : List Key}, keysD ds = some ks → ds = ks.map kD
  | [], ks, h => by cases h; rfl
  | d :: ds, ks, h => by
    simp only [keysD] at h
    split at h
    · rename_i k r h1 h2
      cases h
      rw [keyD_ok h1, keysD_ok h2]; rfl
    · cases h
theorem Fz.key {k : Key} {v : V} (h : Fz G (kD k) v) : v = kV k := by
  cases k <;> simpa [kD, Fz, kV] using h
theorem FzL.keys : ∀ {ks : List Key} {vs : List V}, FzL G (ks.map kD) vs → vs = ks.map kV
  | [], vs, h => by simpa [FzL] using h
  | k :: ks, vs, h => by
    simp only [List.map_cons, FzL] at h
    obtain ⟨v, r, rfl, h1, h2⟩ := h
    rw [h1.key, FzL.keys h2]; rfl
def putX {κ α : Type} [DecidableEq κ] (ks : List κ) (xs : List α) (k : κ) (x : α) : List κ × List α :=
  if k ∈ ks then (ks, List.zipWith (fun k' y => if k' = k then x else y) ks xs) else (ks ++ [k], xs ++ [x])
theorem putX_map {κ : Type} [DecidableEq κ] {k : κ} {v : V} : ∀ {ks : List κ} {vs : List V}, (ks.zip vs).map (fun kv => if kv.1 = k then (kv.1, v) else kv) = ks.zip (List.zipWith (fun k' y => if k' = k then v else y) ks vs)
  | [], vs => rfl
  | _ :: _, [] => rfl
  | a :: ks, b :: vs => by
    simp only [List.zip_cons_cons, List.map_cons, List.zipWith_cons_cons]
    rw [putX_map]
    split <;> simp_all
theorem putX_ok {κ : Type} [DecidableEq κ] {ks : List κ} {vs : List V} {k : κ} {v : V} (hl : ks.length = vs.length) : putK (ks.zip vs) k v = (putX ks vs k v).1.zip (putX ks vs k v).2 := by
  have hm : ((ks.zip vs).any fun kv => decide (kv.1 = k)) = true ↔ k ∈ ks := by
    rw [List.any_eq_true]
    constructor
    · rintro ⟨⟨a, b⟩, hx, e⟩
      have : a = k := by simpa using e
      exact this ▸ (List.of_mem_zip hx).1
    · intro hk
      obtain ⟨j, hj, e⟩ := List.getElem_of_mem hk
      exact ⟨(ks[j], vs[j]'(by omega)), by
        rw [← List.getElem_zip (h := by simp; omega)]
        exact List.getElem_mem _, by simp [e]⟩
  unfold putK putX
  by_cases h : k ∈ ks
  · rw [if_pos (hm.mpr h), if_pos h, putX_map]
  · rw [if_neg (fun h' => h (hm.mp h')), if_neg h]
    simp only
    rw [List.zip_append hl]
    rfl
theorem putX_len {κ α : Type} [DecidableEq κ] {ks : List κ} {xs : List α} {k : κ} {x : α} (h : ks.length = xs.length) : (putX ks xs k x).1.length = (putX ks xs k x).2.length := by
  unfold putX
  split <;> simp [h]
theorem fzL_zipWith {κ : Type} [DecidableEq κ] {k : κ} {d : D} {v : V} (hz : Fz G d v) : ∀ {ks : List κ} {ds : List D} {vs : List V}, FzL G ds vs → FzL G (List.zipWith (fun k' y => if k' = k then d else y) ks ds) (List.zipWith (fun k' y => if k' = k then v else y) ks vs)
  | [], ds, vs, h => .nil
  | a :: ks, [], vs, h => by simp only [FzL] at h; subst h; exact .nil
  | a :: ks, x :: ds, vs, h => by
    simp only [FzL] at h
    obtain ⟨u, r, rfl, h1, h2⟩ := h
    simp only [List.zipWith_cons_cons]
    refine .cons ?_ (fzL_zipWith hz h2)
    split
    · exact hz
    · exact h1
theorem putX_fz {κ : Type} [DecidableEq κ] {k : κ} {d : D} {v : V} {ks : List κ} {ds : List D} {vs : List V} (hz : Fz G d v) (h : FzL G ds vs) : (putX ks ds k d).1 = (putX ks vs k v).1 ∧ FzL G (putX ks ds k d).2 (putX ks vs k v).2 := by
  unfold putX
  split
  · exact ⟨rfl, fzL_zipWith hz h⟩
  · exact ⟨rfl, h.append (.cons hz .nil)⟩
def gDnewK : Sl → R Vl := fun S => .ok ⟨false, 1, .dK [] []⟩ S
def gDnewT : Sl → R Vl := fun S => .ok ⟨false, 1, .dT [] []⟩ S
theorem ve_dnewK : VE true X W (.Dict [] [] pos) gDnewK := ⟨_, pe_dnewK, fun σ0 σ G H S F Q r hw p hp =>
  hw (.ref p) [p] G _ F (r.new hp) (Gr.new' r hp) (VP.one r hp ⟨p, [], [], rfl, upd_same, rfl, rfl, rfl, rfl⟩)⟩
theorem ve_dnewT : VE true X W (.Dict [] [] pos) gDnewT := ⟨_, pe_dnewT, fun σ0 σ G H S F Q r hw p hp =>
  hw (.ref p) [p] G _ F (r.new hp) (Gr.new' r hp) (VP.one r hp ⟨p, [], [], rfl, upd_same, rfl, rfl, rfl, rfl⟩)⟩
theorem SR.dT {i k : Nat} {pin : Bool} {ks : List (List Key)} {ds : List D} (r : SR σ0 G H σ S F) (hc : S[i]? = some ⟨pin, some (k + 1, .dT ks ds)⟩) : ∃ a vs f, σ[i]? = some (some (.ref a)) ∧ H a = some (.dT (ks.zip vs)) ∧ ks.length = ds.length ∧ F i = a :: f ∧ OwL (Ow G H k) ds vs f := by
  obtain ⟨_, h2, _⟩ := r.row i _ hc
  obtain ⟨v, e1, a, vs, f, rfl, h, l, e, z⟩ := h2 _ _ rfl
  exact ⟨a, vs, f, e1, h, l, e, z⟩
theorem SR.dK {i k : Nat} {pin : Bool} {ks : List Key} {ds : List D} (r : SR σ0 G H σ S F) (hc : S[i]? = some ⟨pin, some (k + 1, .dK ks ds)⟩) : ∃ a vs f, σ[i]? = some (some (.ref a)) ∧ H a = some (.dK (ks.zip vs)) ∧ ks.length = ds.length ∧ F i = a :: f ∧ OwL (Ow G H k) ds vs f := by
  obtain ⟨_, h2, _⟩ := r.row i _ hc
  obtain ⟨v, e1, a, vs, f, rfl, h, l, e, z⟩ := h2 _ _ rfl
  exact ⟨a, vs, f, e1, h, l, e, z⟩
def dPut (x : D) (k : D) (d : D) : Option D := match x, k with
  | .dT ks ds, .tup kd => (match keysD kd with
    | some kk => if ks.length < 16777216 then some (.dT (putX ks ds kk d).1 (putX ks ds kk d).2) else none
    | none => none)
  | .dK ks ds, k => (match keyD k with
    | some kk => if ks.length < 16777216 then some (.dK (putX ks ds kk d).1 (putX ks ds kk d).2) else none
    | none => none)
  | _, _ => none
/-- d[k] = x, the values frozen -/
def gDPut (i : Nat) (gx gk : Sl → R D) : Sl → R Out := fun S => (gx S).bind fun d S1 => match S1[i]? with
  | some ⟨_, some (_, _)⟩ => (gk S1).bind fun y S2 => (match S2[i]? with
    | some ⟨_, some (1, c)⟩ => (match dPut c y d with
      | some c' => .ok .nx (S2.put i (some (1, c')))
      | none => .stuck)
    | _ => .stuck)
  | _ => .stuck
theorem vs_dput (i : Nat) {x : Str} {ej : Expr} {xp spos : Pos} {gx gk : Sl → R D} (h : VD p X W e gx) (hj : VD q X W ej gk) (hu : X.A.units + 64 < cLine) (hN : X.N[i]? = some x := by rfl) (hv : Vis X.env.scope x := by first | exact Or.inl rfl | exact Or.inr (Or.inl rfl) | exact Or.inr (Or.inr rfl)) (hd : (x == ("__debug__" : Str)) = false := by decide)
    (hcd : (x == ("__classdict__" : Str)) = false := by decide) (hs : swapsWith e (some (.Subscript (.Name x xp) ej spos)) pos.line X.env = pure false := by rfl) : VS X W (.Assign [.Subscript (.Name x xp) ej spos] e pos) (gDPut i gx gk) := by
  obtain ⟨t, t1, t2⟩ := h
  obtain ⟨u, u1, u2⟩ := hj
  refine ⟨_, ps_dput (by omega) (pe_var hN hv hd hcd) u1 t1 hs, fun σ0 σ G H S F Ed r hw => ?_⟩
  refine VD.sthen (t := t) t2 r hw fun d S1 v G1 H1 F1 r1 g1 z1 hw1 => ?_
  split at hw1
  case h_2 => exact hw1.elim
  rename_i pin k0 d0 hc
  obtain ⟨_, q2, _⟩ := r1.row i _ hc
  obtain ⟨vx, hσ, _⟩ := q2 _ _ rfl
  refine ⟨vx, hσ, ?_⟩
  refine VD.sthen (t := u) u2 r1 hw1 fun y S2 w G2 H2 F2 r2 g2 z2 hw2 => ?_
  split at hw2
  case h_2 => exact hw2.elim
  rename_i pin1 c hc1
  have zd := z1.inc g2.up
  cases hp : dPut c y d with
  | none => rw [hp] at hw2; exact hw2.elim
  | some c' =>
    rw [hp] at hw2
    have fin : ∀ {a : Addr} {o : HO}, σ[i]? = some (some (.ref a)) → F2 i = [a] → (∀ us, o ≠ .tup us) → Ow G2 (upd H2 a o) 1 c' (.ref a) [a] → Ed.nx σ (upd H2 a o) := fun {a o} hσ' hF ho hO => by
      have hu' : ∀ b, b ∉ F2 i → ∀ o', H2 b = some o' → upd H2 a o b = some o' := fun b hb o' ho' => by
        rw [upd_ne fun e : b = a => hb (by rw [e, hF]; simp)]; exact ho'
      refine hw2 σ G2 _ (fpPut F2 i [a]) (r2.mut' hc1 rfl hσ' hu' hO (by simp) (fun b hb => .inl (by rw [hF]; exact hb)) (upd_ntup ho)) ((g1.trans g2).mut (T' := S1) hu' fun b hb => .inr (.inr (by rw [hF]; exact hb)))
    unfold dPut at hp
    split at hp
    · rename_i ks ds kd
      split at hp
      case h_2 => cases hp
      rename_i kk hkk
      split at hp
      case isFalse => cases hp
      rename_i hlen
      cases hp
      obtain ⟨a, vs, f, hσ', hH, hl, hF, ol⟩ := r2.dT hc1
      have fz := OwL.fz0 ol
      have hf : f = [] := by
        have : ∀ b ∈ f, False := OwL.dom ol (C := fun _ => False) fun d v f h => by obtain ⟨_, rfl⟩ := h; simp
        cases f with
        | nil => rfl
        | cons b f => exact (this b (by simp)).elim
      subst hf
      rw [hσ] at hσ'
      cases hσ'
      rw [keysD_ok hkk] at z2
      simp only [Fz] at z2
      obtain ⟨b, us, rfl, hb, hus⟩ := z2
      rw [hus.keys] at hb
      have hl' : ks.length = vs.length := by rw [fz.length]; exact hl
      refine ⟨a, _, rfl, .inr ⟨ks.zip vs, kk, b, hH, rfl, r2.inc _ _ hb, by rw [List.length_zip, ← hl', Nat.min_self, sizeLine_eq]; exact hlen, rfl⟩, ?_⟩
      rw [putX_ok hl']
      obtain ⟨p1, p2⟩ := putX_fz (ks := ks) (k := kk) zd fz
      exact fin hσ hF (fun _ h => nomatch h) ⟨a, _, [], rfl, by rw [p1]; exact upd_same, putX_len hl, rfl, owL_fz p2⟩
    · rename_i ks ds
      split at hp
      case h_2 => cases hp
      rename_i kk hkk
      split at hp
      case isFalse => cases hp
      rename_i hlen
      cases hp
      obtain ⟨a, vs, f, hσ', hH, hl, hF, ol⟩ := r2.dK hc1
      have fz := OwL.fz0 ol
      have hf : f = [] := by
        have : ∀ b ∈ f, False := OwL.dom ol (C := fun _ => False) fun d v f h => by obtain ⟨_, rfl⟩ := h; simp
        cases f with
        | nil => rfl
        | cons b f => exact (this b (by simp)).elim
      subst hf
      rw [hσ] at hσ'
      cases hσ'
      rw [keyD_ok hkk] at z2
      have hl' : ks.length = vs.length := by rw [fz.length]; exact hl
      refine ⟨a, _, rfl, .inl ⟨ks.zip vs, kk, hH, z2.key, by rw [List.length_zip, ← hl', Nat.min_self, sizeLine_eq]; exact hlen, rfl⟩, ?_⟩
      rw [putX_ok hl']
      obtain ⟨p1, p2⟩ := putX_fz (ks := ks) (k := kk) zd fz
      exact fin hσ hF (fun _ h => nomatch h) ⟨a, _, [], rfl, by rw [p1]; exact upd_same, putX_len hl, rfl, owL_fz p2⟩
    · cases hp
end
end VL

set_option Elab.async false
set_option linter.all false
set_option autoImplicit false
set_option maxRecDepth 100000
namespace VL
open PySem PySem.Spec L2
open PyProof.Rows hiding St

section
variable {prog : Program} {w : World} {A : Around} {E : Value → Shared → Prop} {s : Shared} {d r : Addr} {o : Obj} {es : Array DictEntry} {ep : Nat}
theorem meets_keys_raw (d : Addr) (hd : (d == sysModules) = false) :
    MeetsIn prog w (Builtin.«dict.keys» ⟨[.ref d], []⟩) (fun _ R s => s.TypeIs (.ref d) "dict" ∧
      R (.ok (.ret (.ref s.heap.objs.size))) { s with heap := s.heap.push { cls := .type "dict_keys", data := .fields #[.ref d] } }) :=
  .of_wp fun A R s ⟨hm, h⟩ => by
    refine wpAny_bind ?_
    unfold Builtin.Dict.noArgs
    refine wpAny_bind (wpAny_notOrdered_dict hm ?_)
    show wpAny _ _ (pure d) _ _ s
    refine wpAny_pure ?_
    show wpAny _ _ (Builtin.Dict.showsAll d >>= _) _ _ s
    unfold Builtin.Dict.showsAll
    rw [if_neg (by rw [hd]; exact Bool.false_ne_true)]
    refine wpAny_bind (wpAny_pure ?_)
    exact wpAny_bind (wpAny_newObj_type (wpAny_pure ⟨_, rfl, h⟩))
theorem pyIter_keys_raw {v : Addr} {Q : Value → Shared → Prop} (hv : PySem.W.KdlKeysView s.heap v d) (ho : s.heap.get? d = some o) (hdat : o.data = .dict es ep)
    (hQ : Q (.ref s.heap.objs.size) { s with heap := s.heap.push { cls := .type "dict_keyiterator", data := .fields #[.ref d, .int 0 0, .int es.size 0, .int ep 0] } }) :
    wpAny (model prog w) A (pyIter (.ref v)) Q E s := by
  obtain ⟨ov, hov, hcv, hdv⟩ := id hv
  refine wpAny_pyIter_slot hv.typeIs PySem.W.kdl_slot_keys_iter (wpAny_call_entry PySem.W.kdl_slot_keys_iter hv.typeIs PySem.W.kdl_entry_keys_iter ?_ (PySem.W.kdl_args_keys_iter _))
  unfold Builtin.«dict_keys.__iter__»
  refine wpAny_bind (wpAny_pure ?_)
  refine wpAny_bind ?_
  unfold Builtin.Dict_items.dictOf
  refine wpAny_bind (wpAny_field hov hdv (x := .ref d) rfl (wpAny_pure ?_))
  refine wpAny_bind ?_
  unfold Builtin.Dict_items.newIterator
  refine wpAny_bind (wpAny_dictEntries ho hdat ?_)
  refine wpAny_bind (wpAny_dictEpoch ho hdat ?_)
  have hown : Builtin.Dict_items.ownsTuple "dict_keyiterator" = false := by decide
  simp only [hown, Bool.false_eq_true, if_false]
  refine wpAny_newObj_type (wpAny_pure ⟨_, rfl, "dict_keyiterator", _, ⟨_, Heap.get?_push_size _ rfl, rfl⟩, PySem.F.slot_dict_keyiterator_next.lookup, ?_⟩)
  simpa [rawInt] using hQ
theorem kdl_rawKeys (hne : r ≠ d) (hd : o.data = .dict es ep) :
    PySem.W.KdlSrc prog w "dict_keys" r d es.size (fun i v => ∃ en : DictEntry, es[i]? = some en ∧ v = en.key) (fun h => PySem.W.KdlKeysView h r d ∧ h.get? d = some o) where
  type := fun _ hm => hm.1.typeIs
  there := fun _ hm => ⟨let ⟨_, ho, _⟩ := hm.1; Heap.lt_size ho, Heap.lt_size hm.2⟩
  keep := fun _ _ hm hk => ⟨let ⟨o, ho, x⟩ := hm.1; ⟨o, hk r (.inl rfl) o ho, x⟩, hk d (.inr rfl) _ hm.2⟩
  notList := by decide
  notTuple := by decide
  hint := fun _ _ _ _ hm hq => PySem.W.kdl_hint_keys hm.1.typeIs hq
  iter := fun _ s hh hm => ⟨_, _, (fun _ _ hq => pyIter_keys_raw hm.1 hm.2 hd hq), walks_raw hh _ d (Nat.ne_of_lt (Heap.lt_size hm.2)) hd, ⟨⟨_, Heap.get?_push_size _ rfl, rfl, rfl⟩, Heap.get?_push_of_some _ hm.2⟩⟩
end
section
variable {X : Cx} {W : WX} {p q p' : Bool} {e ea eb : Expr} {es : List Expr} {pos : Pos}
variable {σ0 σ : St} {G H G1 H1 G2 H2 : Hp} {F F1 F2 : Fps} {S S1 S2 : Sl}
/-- list(d.keys()), the keys tuples -/
theorem pe_listKeysT {td : TE} {x1 apos cpos : Pos} (hc : X.calm = true) (he : PE X e td) (hg : Gl X "list") (hm : X.mg "list" = none) (hbase : attributeBase e "keys" X.env (eval e X.env) = eval e X.env := by rfl) (hline : (apos.endLine == cpos.line) = true := by rfl) :
    PE X (.Call (.Name "list" x1) [.Call (.Attribute e "keys" apos) [] [] cpos] [] pos) (fun σ H Q => td σ H fun x H1 => ∃ d kvs, x = .ref d ∧ H1 d = some (.dT kvs) ∧ ∀ p bs, H1 p = none → IsKeys H1 kvs bs → Q (.ref p) (upd H1 p (.lst (bs.map V.ref)))) := by
  refine ⟨fun pins s σ H Q I h => ?_⟩
  refine Call_ (ld_blt I hg hm (by first | exact PySem.boot_list | exact PyProof.Rows.boot_list | decide +kernel) ?_)
  refine PyProof.Rows.callWith_type1 (PyProof.Rows.args_cons ?_ rfl) rfl rfl
  refine wpAny_Call_method (T := "dict") (id := "dict.keys") hbase rfl hline PySem.F.plainAttrs_dict PySem.F.slot_dict_keys PySem.F.type_dict_keys (thn (he.run pins s σ H _ I h) fun u s1 ⟨x, H1, I1, rx, d, kvs, ex, hd, q⟩ => ?_)
  subst ex
  obtain rfl : u = Value.ref d := rx
  obtain ⟨z, hs, ks, pr, o, es, ep, ho, hx, hdt, he', hn⟩ := (show ObjOk X.prog X.w H1 s1.heap d (.dT kvs) from I1.hok d _ hd)
  have hty : s1.TypeIs (.ref d) "dict" := ⟨o, ho, hx.1⟩
  refine ⟨hty, fun a ea => by cases ea; exact ⟨o, ho, hx.2.1⟩, ?_⟩
  have I2 : Inv X pins σ H1 { s1 with heap := s1.heap.push { cls := .type "dict_keys", data := .fields #[.ref d] } } := I1.kept (t' := s1.toks) fun b ob q => Heap.get?_push_of_some _ q
  show wpAny _ _ (callWith cpos (.builtin "dict.keys") [.ref d] [] []) _ X.xe s1
  refine method_meetsIn PySem.F.slot_dict_keys PySem.F.entry_dict_keys rfl (PySem.evalArgs_none ⟨rfl, hty, PySem.F.args_dict_keys_1 _, _, meets_keys_raw d hs, hty, ?_⟩)
  refine PyProof.Rows.args_nil ?_
  have l1 : es.size = ks.length := size_of_entries he'
  have l2 : kvs.length = ks.length := Paired.length pr
  have hlt : d < s1.heap.objs.size := Heap.lt_size ho
  refine PySem.W.kdl_call (kdl_rawKeys (r := s1.heap.objs.size) (d := d) (Nat.ne_of_gt hlt) hdt) (I1.ok.hd hc) ⟨⟨_, Heap.get?_push_size _ rfl, rfl, rfl⟩, Heap.get?_push_of_some _ ho⟩ (by omega) fun h' tk acc' c' kp e it => ?_
  have ea : acc'.toList = ks.map fun x => Value.ref x.2.1 := by
    have hl : acc'.toList.length = ks.length := by rw [Array.length_toList, it.1]; exact l1
    apply List.ext_getElem?
    intro j
    rw [List.getElem?_map]
    cases hj : acc'.toList[j]? with
    | none =>
      have h1 := List.getElem?_eq_none_iff.mp hj
      rw [List.getElem?_eq_none (by omega)]
      all_goals rfl
    | some v =>
      obtain ⟨en, hen, hv⟩ := it.2 j v (by rw [← Array.getElem?_toList]; exact hj)
      have qe := entry_at he' j
      rw [hen] at qe
      cases hb : ks[j]? with
      | none =>
        rw [hb] at qe
        exact nomatch (show some en = none from qe)
      | some b =>
        rw [hb] at qe
        have e2 : en = entryOfKey (tupleKind (mixKind X.prog X.w)) b := Option.some.inj qe
        rw [hv, e2]
        all_goals rfl
  have hN := I2.hok.fresh (Nat.le_refl _)
  refine ⟨.ref _, upd H1 _ (.lst ((ks.map fun x => x.2.1).map V.ref)), I2.laid (t' := tk) kp (Nat.le_refl _) ⟨by rw [List.length_map, List.length_map]; omega, acc'.toList, c', ?_, by rw [Array.toArray_toList]; exact e⟩, rfl, q _ (ks.map fun x => x.2.1) hN (isKeys_of pr)⟩
  have eb : acc'.toList = (ks.map fun x => x.2.1).map Value.ref := by rw [ea, List.map_map]; all_goals rfl
  rw [eb]; exact vals_refs _
def gListKeys (i : Nat) : Sl → R Vl := fun S => match S[i]? with
  | some ⟨_, some (1, .dT ks _)⟩ => .ok ⟨false, 1, .lst (ks.map fun k => D.tup (k.map kD))⟩ S
  | _ => .stuck
theorem fz_keys {ks : List Key} : FzL G (ks.map kD) (ks.map kV) := by
  induction ks with
  | nil => exact .nil
  | cons k ks ih => exact .cons (by cases k <;> rfl) ih
theorem fzL_isKeys (ht : ∀ a us, H a = some (.tup us) → G a = some (.tup us)) : ∀ {ks : List (List Key)} {vs : List V} {bs : List Addr}, ks.length = vs.length → IsKeys H (ks.zip vs) bs → FzL G (ks.map fun k => D.tup (k.map kD)) (bs.map V.ref)
  | [], _, _, _, .nil => .nil
  | _ :: _, [], _, hl, _ => by simp at hl
  | k :: ks, v :: vs, _, hl, .cons (b := b) h t => .cons ⟨b, _, rfl, ht _ _ h, fz_keys⟩ (fzL_isKeys ht (by simpa using hl) t)
theorem ve_listKeys (i : Nat) {x : Str} {xp x1 apos cpos : Pos} (hc : X.calm = true) (hg : Gl X "list" := by rfl) (hm : X.mg "list" = none) (hN : X.N[i]? = some x := by rfl) (hv : Vis X.env.scope x := by first | exact Or.inl rfl | exact Or.inr (Or.inl rfl) | exact Or.inr (Or.inr rfl)) (hd : (x == ("__debug__" : Str)) = false := by decide)
    (hcd : (x == ("__classdict__" : Str)) = false := by decide) (hbase : attributeBase (.Name x xp) "keys" X.env (eval (.Name x xp) X.env) = eval (.Name x xp) X.env := by rfl) (hline : (apos.endLine == cpos.line) = true := by rfl) :
    VE true X W (.Call (.Name "list" x1) [.Call (.Attribute (.Name x xp) "keys" apos) [] [] cpos] [] pos) (gListKeys i) := by
  refine ⟨_, pe_listKeysT hc (pe_var hN hv hd hcd) hg hm hbase hline, fun σ0 σ G H S F Q r hw => ?_⟩
  unfold gListKeys at hw
  split at hw
  case h_2 => exact hw.elim
  rename_i pin ks ds hcell
  obtain ⟨a, vs, f, hσ, hH, hl, hF, ol⟩ := r.dT hcell
  refine ⟨_, hσ, a, ks.zip vs, rfl, hH, fun p bs hp hk => ?_⟩
  exact new_lst (p := true) (S' := S) r (.refl r) (fzL_isKeys r.tp (by rw [ol.length, hl]) hk) hw p hp
end
end VL

set_option Elab.async false
set_option linter.all false
set_option autoImplicit false
set_option maxRecDepth 100000
namespace VL
open PySem PySem.Spec L2
open PyProof.Rows hiding St

/-! ## own errors -/
/-- what the written part says of the error class x at C, of its base at B -/
structure ErrTxt (K : PySem.W.Frag) (mg : Str → Option Value) (x : Str) (C B fI : Addr) : Prop where
  oex : OexC K C
  gC : mg x = some (.ref C)
  iC : PySem.W.findIn K (.ref C) "__init__" = some (some (.ref fI))
  tI : PySem.W.typeIn K (.ref fI) = some (.type "function")
  noW : PySem.W.findIn K (.ref C) "what" = some none
  gB : mg "PolyError" = some (.ref B)
  sB : PySem.W.specialIn K (.ref B) "__getattribute__" = some (some (.builtin "type.__getattribute__"))
  rB : PySem.W.readsIn K B (.type "type") = true
  vB : PySem.W.findCls K (.ref B) (.type "type") "__init__" = some (.val (.builtin "ValueError.__init__"))
  ga : PySem.W.findIn K (.ref C) "__getattribute__" = some (some (.builtin "BaseException.__getattribute__"))
  gg : PySem.W.findIn K (.ref C) "__getattr__" = some none
  hdC : PySem.W.hasDictIn K C = true
section
variable {X : Cx} {W : WX} {p q p' : Bool} {e ea eb : Expr} {es : List Expr} {pos : Pos}
variable {σ0 σ : St} {G H G1 H1 G2 H2 : Hp} {F F1 F2 : Fps} {S S1 S2 : Sl}
theorem pe_veinitO {x : Str} {C B fI : Addr} {ta : TA} {p1 p2 : Pos} {pl : Sem Bool} (T : ErrTxt X.K X.mg x C B fI) (hg : Gl X "PolyError") (ha : PA X (e :: es) ta)
    (hc : eval (.Call (.Attribute (.Name "PolyError" p1) "__init__" p2) (e :: es) [] pos) X.env = (do
      let ov ← eval (.Name "PolyError" p1) X.env
      standAt p2.atName
      let (f, first) ← holding [ov] (getMethod ov "__init__" pl)
      callWith pos f first (backTo pos (starEach (e :: es) X.env)) (backToKw pos (keywordEach [] X.env))) := by rfl)
    (he : starEach (e :: es) X.env = (false, eval e X.env) :: starEach es X.env := by rfl) (hpl : (backTo pos (starEach es X.env)).any (·.1) = false := by rfl) :
    PE X (.Call (.Attribute (.Name "PolyError" p1) "__init__" p2) (e :: es) [] pos) (tVeI X.K ta) := by
  refine ⟨fun pins s σ H Q I h => ?_⟩
  refine PySem.W.methodCall_KW (ld_glob I hg T.gB ?_ (by decide)) hc
  refine PySem.W.method_cls I.kIn T.sB (PySem.W.cls_value I.kIn T.rB T.vB (by decide +kernel) ?_)
  show wpAny _ _ (callWith pos (Value.builtin "ValueError.__init__") [] (backTo pos (starEach (e :: es) X.env)) []) _ _ _
  refine PyProof.Rows.callWith_method1 (thn (ha.run pos pins _ σ H _ (I.tok _) h) fun us s1 ⟨vs, H1, I1, r1, a, C, ws, ev, hl, T, ea, q⟩ => ?_) he hpl
  subst ev
  cases r1 with
  | @cons _ u0 _ ur ra rw' =>
    obtain rfl : u0 = Value.ref a := ra
    have hlen : ur.length ≤ sizeLine := by
      rw [← Paired.length rw', sizeLine_eq]
      omega
    exact oinit_ok T I1 ea hlen fun s' J => ⟨.non, H1, J, rfl, q⟩
def nmSW : List Str := [("self" : Str), ("what" : Str)]
def spInit (C : Addr) : Sp := fun vs H Q E => ∃ a z, vs = [.ref a, .str z] ∧ z.length ≤ 1000 ∧ H a = some (exo a C none) ∧ ∀ dx, H dx = none → dx ≠ a → Q .non (upd (upd H dx (exd dx [("what", .str z)])) a (exo a C (some dx)))
theorem spInit_len {C : Addr} : ∀ vs H Q E, spInit C vs H Q E → vs.length = 2 := fun vs H Q E ⟨a, z, e, _⟩ => by rw [e]; rfl
/-- the body of __init__ -/
theorem init_pss {x pre : Str} {C B fI : Addr} {j : Nat} {p1 p2 p3 p4 p5 p6 p7 p8 q1 q2 q3 q4 : Pos} {pl : Sem Bool} {vs : List V} {Q : VK} {E : XK} {N : List Str} (T : ErrTxt X.K X.mg x C B fI) (hN : X.N = nmSW) (hs0 : X.env.scope.names.lookup ("self" : Str) = some .local) (hs1 : X.env.scope.names.lookup ("what" : Str) = some .local)
    (hp : pre.length ≤ 1000) (hg : Gl X "PolyError")
    (hc : eval (.Call (.Attribute (.Name "PolyError" p1) "__init__" p2) [.Name "self" p3, .BinOp (.Constant (.str pre) j p4) .Add (.Name "what" p5) p6] [] p7) X.env = (do
      let ov ← eval (.Name "PolyError" p1) X.env
      standAt p2.atName
      let (f, first) ← holding [ov] (getMethod ov "__init__" pl)
      callWith p7 f first (backTo p7 (starEach [.Name "self" p3, .BinOp (.Constant (.str pre) j p4) .Add (.Name "what" p5) p6] X.env)) (backToKw p7 (keywordEach [] X.env))))
    (h : spInit C vs H Q E) : ∃ t, PSs X [.Expr (.Call (.Attribute (.Name "PolyError" p1) "__init__" p2) [.Name "self" p3, .BinOp (.Constant (.str pre) j p4) .Add (.Name "what" p5) p6] [] p7) p8, .Assign [.Attribute (.Name "self" q1) "what" q2] (.Name "what" q3) q4] t ∧
      t { nx := fun _ H' => Q .non H', rt := Q } (start nmSW vs) H := by
  obtain ⟨a, z, rfl, hz, ha, k⟩ := h
  have v0 : Vis X.env.scope ("self" : Str) := .inl hs0
  have v1 : Vis X.env.scope ("what" : Str) := .inl hs1
  have n0 : X.N[0]? = some ("self" : Str) := by rw [hN]; rfl
  have n1 : X.N[1]? = some ("what" : Str) := by rw [hN]; rfl
  refine ⟨_, pss_cons (ps_expr (pe_veinitO (pl := pl) T hg (pa_cons (pe_var n0 v0) (pa_cons (pe_op op_add_str pe_str (pe_var n1 v1)) pa_nil)) hc)) (pss_one (ps_ost (pe_var n0 v0) (pe_var n1 v1))), ?_⟩
  refine ⟨.ref a, rfl, .str z, rfl, pre, z, rfl, rfl, by rw [sizeLine_eq]; omega, a, C, [.str (pre ++ z)], rfl, by simp, T.oex, ha, ?_⟩
  refine ⟨.str z, rfl, .ref a, rfl, a, C, rfl, T.oex, T.noW, .inl ⟨ha, fun dx n ne => ?_⟩⟩
  exact k dx n ne
end
section
variable {P : Program} {w : World} {K : PySem.W.Frag} {mg : Str → Option Value} {base : Heap}
theorem init_ok {x qual pre : Str} {st : Stmt} {C B fI : Addr} {fd : FuncData} {j : Nat} {p1 p2 p3 p4 p5 p6 p7 p8 q1 q2 q3 q4 : Pos} (Fu : Fun K "__init__" qual st fI fd) (T : ErrTxt K mg x C B fI) (Sc : FnScope nmSW nmSW (defScope st)) (hp : pre.length ≤ 1000)
    (hs0 : (defScope st).names.lookup ("self" : Str) = some .local) (hs1 : (defScope st).names.lookup ("what" : Str) = some .local) (hs2 : (defScope st).names.lookup ("PolyError" : Str) = some .globalImplicit)
    (hb : defBody st = [.Expr (.Call (.Attribute (.Name "PolyError" p1) "__init__" p2) [.Name "self" p3, .BinOp (.Constant (.str pre) j p4) .Add (.Name "what" p5) p6] [] p7) p8, .Assign [.Attribute (.Name "self" q1) "what" q2] (.Name "what" q3) q4])
    (hG : ∀ (cdv : Value) (A : Around) (outer : List Env) (s : Shared) (H : Hp) (E : XK), Gl (cxOf (L2.CX P w) P w K mg base nmSW qual (defScope st) fI cdv A outer s H E) ("PolyError" : Str))
    (hC : ∀ (cdv : Value) (A : Around) (outer : List Env) (s : Shared) (H : Hp) (E : XK), ∃ pl : Sem Bool, eval (.Call (.Attribute (.Name "PolyError" p1) "__init__" p2) [.Name "self" p3, .BinOp (.Constant (.str pre) j p4) .Add (.Name "what" p5) p6] [] p7) (cxOf (L2.CX P w) P w K mg base nmSW qual (defScope st) fI cdv A outer s H E).env = (do
      let ov ← eval (.Name "PolyError" p1) (cxOf (L2.CX P w) P w K mg base nmSW qual (defScope st) fI cdv A outer s H E).env
      standAt p2.atName
      let (f, first) ← holding [ov] (getMethod ov "__init__" pl)
      callWith p7 f first (backTo p7 (starEach [.Name "self" p3, .BinOp (.Constant (.str pre) j p4) .Add (.Name "what" p5) p6] (cxOf (L2.CX P w) P w K mg base nmSW qual (defScope st) fI cdv A outer s H E).env)) (backToKw p7 (keywordEach [] (cxOf (L2.CX P w) P w K mg base nmSW qual (defScope st) fI cdv A outer s H E).env)))) :
    FnOk P w K mg base (L2.CX P w) 1 fI fd nmSW (spInit C) := by
  refine Fu.okX Sc (fun vs H Q E h => spInit_len vs H Q E h) fun cdv A outer s H vs Q E hr hsp => ?_
  obtain ⟨pl, hc⟩ := hC cdv A outer s H E
  rw [hb]
  exact init_pss (X := cxOf (L2.CX P w) P w K mg base nmSW qual (defScope st) fI cdv A outer s H E) (N := nmSW) (pl := pl) T rfl hs0 hs1 hp (hG cdv A outer s H E) hc hsp
end
section
variable {X : Cx} {W : WX} {p q p' : Bool} {e ea eb : Expr} {es : List Expr} {pos : Pos}
variable {σ0 σ : St} {G H G1 H1 G2 H2 : Hp} {F F1 F2 : Fps} {S S1 S2 : Sl}
/-- raise x(e) -/
def gRaise (C : Addr) (g : Sl → R D) : Sl → R Out := fun S => (g S).bind fun d S1 => match d with
  | .str z => if z.length ≤ 1000 then .err C (some ("what", .str z)) S1 else .stuck
  | _ => .stuck
theorem vs_raise {x : Str} {C B fI : Addr} {fd : FuncData} {k : Nat} {xp p2 : Pos} {g : Sl → R D} (h : VD p X W e g) (T : ErrTxt X.K X.mg x C B fI) (F1 : FnOk X.prog X.w X.K X.mg X.base (L2.CX X.prog X.w) k fI fd nmSW (spInit C)) (hr : Room (k + 1) X.A) (hb : Binds X.K fd nmSW []) (hc : X.calm = true) (tk : Takes X W) (hg : Gl X x := by rfl)
    (hdb : (x == ("__debug__" : Str)) = false := by decide) (he : starEach [e] X.env = (false, eval e X.env) :: starEach [] X.env := by rfl) (hpl : (backTo p2 (starEach [] X.env)).any (·.1) = false := by rfl) : VS X W (.Raise (some (.Call (.Name x xp) [e] [] p2)) none pos) (gRaise C g) := by
  obtain ⟨t, t1, t2⟩ := h
  refine ⟨_, ps_raise hc tk (pmk_oex T.oex T.iC T.tI F1 hr hb .nil passL hg T.gC (pa_cons t1 pa_nil he) hdb he hpl), fun σ0 σ G H S F D r hw => ?_⟩
  refine VD.sthen (t := t) t2 r hw fun d S1 v G1 H1 F1' r1 g1 z1 hw1 => ?_
  cases d <;> first | exact hw1.elim | skip
  rename_i z
  simp only at hw1
  split at hw1
  case isFalse => exact hw1.elim
  rename_i hz
  simp only [Fz] at z1
  subst z1
  refine ⟨by simp, fun a ha => ⟨a, z, rfl, hz, upd_same, fun dx hdx hne => ⟨rfl, dx, [("what", .str z)], upd_same, by rw [upd_ne hne, upd_same], ?_, ?_⟩⟩⟩
  · rw [upd_ne hne] at hdx; exact hdx
  · rw [upd_ne hne] at hdx
    have e1 : upd (del (upd (upd (upd H1 a (exo a C none)) dx (exd dx [("what", V.str z)])) a (exo a C (some dx))) a) dx (.xd [("what", V.str z)]) = upd H1 dx (.xd [("what", V.str z)]) := by
      funext b
      by_cases hb : b = dx
      · subst hb; rw [upd_same, upd_same]
      · rw [upd_ne hb, upd_ne hb]
        by_cases hba : b = a
        · subst hba; rw [del_same, ha]
        · rw [del_ne hba, upd_ne hba, upd_ne hb, upd_ne hba]
    rw [e1]
    exact hw1 σ (some dx) (upd G1 dx (.xd _)) _ F1' (r1.newG hdx) ((Gr.refl r1).newG r1 hdx) ⟨dx, [("what", V.str z)], .str z, rfl, upd_same, by rfl, rfl⟩
end
end VL

set_option Elab.async false
set_option linter.all false
set_option autoImplicit false
set_option maxRecDepth 100000
namespace VL
open PySem PySem.Spec L2
open PyProof.Rows hiding St

section
variable {X : Cx} {W Wout : WX} {p q p' : Bool} {e ea eb : Expr} {es : List Expr} {pos : Pos} {sts : List Stmt}
variable {σ0 σ : St} {G H G1 H1 G2 H2 : Hp} {F F1 F2 : Fps} {S S1 S2 : Sl}
def tVS (W : WX) (g : Sl → R Out) : TS := fun D σ H => ∃ σ0 G S F, SR σ0 G H σ S F ∧ (g S).wp (OkS σ0 G H S F D) (OkX σ0 G H S F W)
theorem VSs.can {g : Sl → R Out} (h : VSs X W sts g) : PSs X sts (tVS W g) := by
  obtain ⟨t, h1, h2⟩ := h
  exact ⟨fun pins s σ H D I ⟨σ0, G, S, F, r, hw⟩ => h1.run pins s σ H D I (h2 σ0 σ G H S F D r hw)⟩
/-! ### error.what in its suite -/
theorem pe_what {a : Addr} {oe : Obj} {cls : Value} {d : Option Addr} {pn : List (Addr × Obj)} {te : TE} {x : Str} {C B fI : Addr} (T : ErrTxt X.K X.mg x C B fI) (hz : Zc cls d oe) (hf : ∃ vs, oe.data = .fields vs) (he : PE (X.suite a ((a, oe) :: pn)) e te)
    (hb : attributeBase e "what" X.env (eval e X.env) = eval e X.env := by rfl) :
    PE (X.suite a ((a, oe) :: pn)) (.Attribute e "what" pos) (fun σ H Q => te σ H fun x H1 => x = .ref a ∧ cls = .ref C ∧ ∃ (dd : Addr) (fs : List (Str × V)) (v : V), d = some dd ∧ H1 dd = some (.xd fs) ∧ fs.lookup ("what" : Str) = some v ∧ Q v H1) := by
  refine ⟨fun pins s σ H Q I h => ?_⟩
  refine attr_of hb (thn (he.run pins s σ H _ I h) fun u s1 hh => ?_)
  obtain ⟨x, H1, I1, rx, ex, ec, dd, fs, v, ed, ea, l, q⟩ := hh
  subst ex
  obtain rfl : u = Value.ref a := rx
  subst ec
  subst ed
  obtain ⟨ha, _⟩ := I1.pin (a, oe) (List.mem_append_left _ List.mem_cons_self)
  obtain ⟨vs, hd⟩ := hf
  have hx : ObjOk X.prog X.w H1 s1.heap dd (.xd fs) := I1.hok dd _ ea
  obtain ⟨mA, hns, hr⟩ := hx
  obtain ⟨od, ho, hl⟩ := lookIn_ns hns
  obtain ⟨u, hu, ru⟩ := RelO.some_of (v := v) (o := mA "what") (by rw [← l]; exact hr "what")
  have J : PySem.W.InstAt s1.heap a oe C (some od) := ⟨ha, hz.1, by unfold PySem.W.notCls; rw [hd] <;> rfl, by rw [hz.2]; exact ho⟩
  exact HandSPX.exc_get I1.kIn J T.ga T.gg T.oex.exC (PySem.W.findObj_own T.hdC T.noW rfl (by rw [hl, hu])) (handed_of ru) ⟨v, H1, I1.tok _, ru, q⟩
def gExc (a dd : Addr) (i : Nat) : Sl → R D := fun S => match S[i]? with
  | some ⟨_, some (0, .exc a' dd' n d)⟩ => if a' = a ∧ dd' = dd ∧ n = ("what" : Str) then .ok d S else .stuck
  | _ => .stuck
theorem vd_what (i : Nat) {a dd : Addr} {oe : Obj} {cls : Value} {pn : List (Addr × Obj)} {x n : Str} {xp : Pos} {C B fI : Addr} (T : ErrTxt X.K X.mg x C B fI) (hz : Zc cls (some dd) oe) (hf : ∃ vs, oe.data = .fields vs) (hcl : cls = .ref C) (hN : X.N[i]? = some n := by rfl) (hv : Vis X.env.scope n := by first | exact Or.inl rfl | exact Or.inr (Or.inl rfl) | exact Or.inr (Or.inr rfl)) (hd : (n == ("__debug__" : Str)) = false := by decide)
    (hcd : (n == ("__classdict__" : Str)) = false := by decide) (hb : attributeBase (.Name n xp) "what" X.env (eval (.Name n xp) X.env) = eval (.Name n xp) X.env := by rfl) : VD true (X.suite a ((a, oe) :: pn)) W (.Attribute (.Name n xp) "what" pos) (gExc a dd i) := by
  refine ⟨_, pe_what T hz hf (pe_var (X := X.suite a ((a, oe) :: pn)) hN hv hd hcd) hb, fun σ0 σ G H S F Q r hw => ?_⟩
  unfold gExc at hw
  split at hw
  case h_2 => exact hw.elim
  rename_i pin a' dd' n' d hc
  split at hw
  case isFalse => exact hw.elim
  rename_i hcond
  obtain ⟨rfl, rfl, rfl⟩ := hcond
  obtain ⟨_, h2, _⟩ := r.row i _ hc
  obtain ⟨v, e1, e2⟩ := h2 _ _ rfl
  have z := e2.1
  simp only [Fz] at z
  obtain ⟨rfl, fs, u, h3, h4, h5⟩ := z
  exact ⟨_, e1, rfl, hcl, _, fs, u, rfl, r.inc _ _ h3, h4, hw u G H F r (.refl r) h5⟩

/-! ### try: .. except x as n: .. -/
def normO (i : Nat) : R Out → R Out
  | .ok o S => (match S[i]? with
    | some ⟨false, _⟩ => .ok o (S.put i none)
    | _ => .stuck)
  | _ => .stuck
open Classical in
noncomputable def tryPick (f : Addr → Addr → R Out) (i : Nat) : R Out := if h : ∃ r, ∀ a dd, normO i (f a dd) = r then h.choose else .stuck
theorem tryPick_eq {f : Addr → Addr → R Out} {i : Nat} {r : R Out} (h : ∀ a dd, normO i (f a dd) = r) : tryPick f i = r := by
  have hh : ∃ r, ∀ a dd, normO i (f a dd) = r := ⟨r, h⟩
  unfold tryPick
  rw [dif_pos hh]
  exact (hh.choose_spec 0 0).symm.trans (h 0 0)
noncomputable def gTry (C : Addr) (others : List Addr) (i : Nat) (gb : Sl → R Out) (gs : Addr → Addr → Sl → R Out) : Sl → R Out := fun S => match gb S with
  | .stuck => .stuck
  | .ok o S1 => .ok o S1
  | .err c w S1 => if c = C then (match w, S1[i]? with
      | some (n, d), some ⟨false, _⟩ => tryPick (fun a dd => gs a dd (S1.put i (some (0, .exc a dd n d)))) i
      | _, _ => .stuck)
    else if others.contains c then .err c w S1 else .stuck
theorem vs_try (i : Nat) {C : Addr} {others : List Addr} {x n : Str} {np pos' : Pos} {body suite : List Stmt} {b₀ : Stmt} {gb : Sl → R Out} {gs : Addr → Addr → Sl → R Out} (hs : X.stack = X.env :: X.outer) (hf : X.env.frame = some X.env.locals) (hN : X.N.Nodup) (hi : X.N[i]? = some n) (hln : X.env.kindOf n = some .local) (hc : Names X x (.ref C)) (tk : Takes X W)
    (he : PySem.W.exmOne X.K (.ref C) (.ref C) = some true) (ho : ∀ c, others.contains c = true → PySem.W.exmOne X.K (.ref c) (.ref C) = some false)
    (hb : ∀ (W : WX) (pn : List (Addr × Obj)) (xe : Value → Shared → Prop), Takes (X.tr pn xe) W → PassesOwn (model X.prog X.w) X.A X.env xe → VSs (X.tr pn xe) W body gb)
    (hsu : ∀ (a dd : Addr) (oe : Obj) (pn : List (Addr × Obj)), Zc (.ref C) (some dd) oe → (∃ vs, oe.data = .fields vs) → VSs (X.suite a ((a, oe) :: pn)) W0 (b₀ :: suite) (gs a dd)) :
    VS X W (.Try body [.ExceptHandler (some (.Name x np)) (some n) (b₀ :: suite) pos'] [] [] pos) (gTry C others i gb gs) := by
  refine ⟨_, ps_try_as (tb := fun W => tVS W gb) (ts := fun a cls d => match d with | some dd => (fun D σ H => cls = .ref C ∧ tVS W0 (gs a dd) D σ H) | none => tNever) hs hf hN hi hln hc tk (fun W pn xe h1 h2 => (hb W pn xe h1 h2).can) (fun a oe cls d pn hz hd => ?_), fun σ0 σ G H S F Ed r hw => ?_⟩
  · cases d with
    | none => exact pss_never
    | some dd => exact ⟨fun pins s σ H D I ⟨hcl, h⟩ => (hsu a dd oe pn (by rw [← hcl]; exact hz) hd).can.run pins s σ H D I h⟩
  · refine ⟨σ0, G, S, F, r, ?_⟩
    unfold gTry at hw
    cases hg : gb S with
    | stuck => rw [hg] at hw; exact hw.elim
    | ok o S1 => rw [hg] at hw; exact hw
    | err c w S1 =>
      rw [hg] at hw
      intro σ1 dd1 G1 H1 F1 r1 g1 er
      simp only at hw
      split at hw
      · rename_i hcC
        subst hcC
        split at hw
        case h_2 => exact hw.elim
        rename_i nn d val hcell
        refine ⟨true, he, (fun _ a ha => ?_), (fun h => nomatch h)⟩
        obtain ⟨dd0, fs, u, rfl, h3, h4, h5⟩ := er
        refine ⟨by first | rfl | trivial, ?_⟩
        have hi' : i < σ1.length := by rw [r1.len]; exact (List.getElem?_eq_some_iff.mp hcell).1
        have r2 : SR σ0 G1 H1 (σ1.set i (some (.ref a))) (S1.put i (some (0, .exc a dd0 nn d))) (fpPut F1 i []) := by
          refine r1.put hcell (by simp) (fun j hj => List.getElem?_set_ne (Ne.symm hj)) (fun h => nomatch h) (fun k d' e => ?_) (fun e => nomatch e) .nil (fun _ _ a h => by simp at h) fun a h => by simp at h
          cases e
          refine ⟨.ref a, by simp [List.getElem?_set_self hi'], ?_, rfl⟩
          simp only [Fz]
          exact ⟨trivial, fs, u, h3, h4, h5⟩
        refine ⟨σ0, G1, _, _, r2, ?_⟩
        have g2 : Gr false G H F S G1 H1 (fpPut F1 i []) (S1.put i (some (0, .exc a dd0 nn d))) := ⟨g1.up, g1.new, g1.fr, fun j b hb => by
          by_cases hj : j = i
          · simp [fpPut, hj] at hb
          · simp only [fpPut, if_neg hj] at hb; exact g1.src j b hb, fun h => nomatch h⟩
        by_cases hp : ∃ rr, ∀ a dd, normO i (gs a dd (S1.put i (some (0, .exc a dd nn d)))) = rr
        · obtain ⟨rr, hrr⟩ := hp
          rw [tryPick_eq hrr] at hw
          have hr0 := hrr a dd0
          cases hgs : gs a dd0 (S1.put i (some (0, .exc a dd0 nn d))) with
          | stuck => rw [hgs] at hr0; subst hr0; exact hw.elim
          | err c' w' S' => rw [hgs] at hr0; subst hr0; exact hw.elim
          | ok o S3 =>
            rw [hgs] at hr0
            subst hr0
            intro σ3 G3 H3 F3 r3 g3
            obtain ⟨val3, hc3⟩ : ∃ val3, S3[i]? = some ⟨false, val3⟩ := by
              cases hc3 : S3[i]? with
              | none => rw [show normO i (R.ok o S3) = .stuck by simp [normO, hc3]] at hw; exact hw.elim
              | some c3 =>
                obtain ⟨pin3, v3⟩ := c3
                cases pin3 with
                | true => rw [show normO i (R.ok o S3) = .stuck by simp [normO, hc3]] at hw; exact hw.elim
                | false => exact ⟨v3, rfl⟩
            rw [show normO i (R.ok o S3) = .ok o (S3.put i none) by simp [normO, hc3]] at hw
            have hi3 : i < σ3.length := by rw [r3.len]; exact (List.getElem?_eq_some_iff.mp hc3).1
            have r4 : SR σ0 G3 H3 (σ3.set i none) (S3.put i none) (fpPut F3 i []) :=
              r3.put hc3 (by simp) (fun j hj => List.getElem?_set_ne (Ne.symm hj)) (fun h => nomatch h) (fun k d' e => nomatch e) (fun _ => rfl) .nil (fun _ _ a h => by simp at h) fun a h => by simp at h
            have g4 : Gr false G H F S G3 H3 (fpPut F3 i []) (S3.put i none) := by
              have g5 := g2.trans g3
              exact ⟨g5.up, g5.new, g5.fr, fun j b hb => by
                by_cases hj : j = i
                · simp [fpPut, hj] at hb
                · simp only [fpPut, if_neg hj] at hb; exact g5.src j b hb, fun h => nomatch h⟩
            have fin := hw (σ3.set i none) G3 H3 _ r4 g4
            cases o with
            | nx => exact fin
            | ct => exact fin
            | bk => exact fin
            | rt x => exact fun v fp z => fin v fp (VP.from g2 ⟨z.ow, z.nd, z.src, fun hb j a ha hj => by
                by_cases hji : j = i
                · simp [fpPut, hji] at hj
                · simp only [fpPut, if_neg hji] at hj; exact z.dj hb j a ha hj, z.ns⟩)
        · exfalso
          unfold tryPick at hw
          rw [dif_neg hp] at hw
          exact hw.elim
      · split at hw
        · rename_i hcC hin
          exact ⟨false, ho c hin, (fun h => nomatch h), fun _ => hw σ1 dd1 G1 H1 F1 r1 g1 er⟩
        · exact hw.elim
end
end VL

set_option Elab.async false
set_option linter.all false
set_option autoImplicit false
set_option maxRecDepth 100000
namespace VL
open PySem PySem.Spec L2
open PyProof.Rows hiding St

section
variable {X : Cx} {W : WX} {p q p' : Bool} {e ea eb : Expr} {es : List Expr} {pos : Pos} {tg : Expr}
variable {σ0 σ : St} {G H G1 H1 G2 H2 : Hp} {F F1 F2 : Fps} {S S1 S2 : Sl}
/-! ### range, enumerate, zip -/
def rangeD (lo : Int) (n : Nat) : List D := (List.range n).map fun i => .int (lo + (i : Nat))
theorem rangeD_get {lo : Int} {n i : Nat} {d : D} (h : (rangeD lo n)[i]? = some d) : i < n ∧ d = .int (lo + i) := by
  unfold rangeD at h
  rw [List.getElem?_map] at h
  by_cases hi : i < n
  · rw [List.getElem?_range hi] at h
    cases h
    exact ⟨hi, rfl⟩
  · rw [List.getElem?_eq_none (by simp; omega)] at h
    cases h
theorem rangeD_len {lo : Int} {n : Nat} : (rangeD lo n).length = n := by simp [rangeD]
theorem itr_ok {b : Bool} {lo : Int} {n : Nat} : ItOk b (Itr lo n) G H (rangeD lo n) := fun G' H' i1 i2 _ i3 i => by
  refine ⟨fun d hd => ?_, fun hi => by rw [rangeD_len] at hi; exact hi⟩
  obtain ⟨h1, rfl⟩ := rangeD_get hd
  exact ⟨h1, fun x H'' ⟨e1, e2⟩ => .inl ⟨e1, e2⟩⟩
def dRange1 : List D → Option (List D)
  | [.int j] => if -(2 ^ 62) ≤ j ∧ j < 2 ^ 62 then some (rangeD 0 j.toNat) else none
  | _ => none
def dRange2 : List D → Option (List D)
  | [.int i, .int j] => if -(2 ^ 62) ≤ i ∧ i < 2 ^ 62 ∧ -(2 ^ 62) ≤ j ∧ j < 2 ^ 62 then some (rangeD i (j - i).toNat) else none
  | _ => none
def gIt (h : List D → Option (List D)) (ga : Sl → R (List D)) : Sl → R (List D) := fun S => (ga S).bind fun ds S1 => match h ds with | some xs => .ok xs S1 | none => .stuck
theorem vi_range1 (b : Bool) {xp : Pos} {ga : Sl → R (List D)} (ha : VA p X W [e] ga) (hm : X.mg "range" = none) (hg : Gl X "range" := by rfl) (hs : starEach [e] X.env = [(false, eval e X.env)] := by rfl) : VI p b X W tg (.Call (.Name "range" xp) [e] [] pos) (gIt dRange1 ga) := by
  obtain ⟨t, t1, t2⟩ := ha
  refine ⟨_, pi_range1 hg hm t1 hs, fun σ0 σ G H S F Q r hw => ?_⟩
  refine VA.then (t := t) t2 r hw fun ds S1 vs G1 H1 F1 r1 g1 z1 hw1 => ?_
  match ds, hw1, z1 with
  | [], hw1, _ => exact hw1.elim
  | _ :: _ :: _, hw1, _ => exact absurd hw1 (by simp only [dRange1]; exact id)
  | [d], hw1, z1 =>
    cases d <;> first | exact hw1.elim | skip
    rename_i j
    simp only [dRange1] at hw1
    split at hw1
    case h_2 => exact hw1.elim
    rename_i xs hx
    split at hx
    case isFalse => cases hx
    rename_i hj
    cases hx
    obtain ⟨v, rfl, h⟩ := fzL1 z1
    simp only [Fz] at h
    exact ⟨j, by rw [h], hj.1, hj.2, hw1 _ G1 H1 F1 r1 g1 itr_ok⟩
theorem vi_range2 (b : Bool) {e2 : Expr} {xp : Pos} {ga : Sl → R (List D)} (ha : VA p X W [e, e2] ga) (hm : X.mg "range" = none) (hg : Gl X "range" := by rfl) (hs : starEach [e, e2] X.env = [(false, eval e X.env), (false, eval e2 X.env)] := by rfl) (hs2 : starEach [e2] X.env = [(false, eval e2 X.env)] := by rfl) : VI p b X W tg (.Call (.Name "range" xp) [e, e2] [] pos) (gIt dRange2 ga) := by
  obtain ⟨t, t1, t2⟩ := ha
  refine ⟨_, pi_range2 hg hm t1 hs hs2, fun σ0 σ G H S F Q r hw => ?_⟩
  refine VA.then (t := t) t2 r hw fun ds S1 vs G1 H1 F1 r1 g1 z1 hw1 => ?_
  unfold dRange2 at hw1
  split at hw1
  case h_2 => exact hw1.elim
  rename_i xs hx
  split at hx
  case h_2 => cases hx
  rename_i ds' i j
  split at hx
  case isFalse => cases hx
  rename_i hj
  cases hx
  obtain ⟨v, u, rfl, h, h'⟩ := fzL2 z1
  simp only [Fz] at h h'
  exact ⟨i, j, by rw [h, h'], hj, hw1 _ G1 H1 F1 r1 g1 itr_ok⟩
def enumD (xs : List D) : List D := (List.range xs.length).map fun i => .tup [.int (i : Nat), xs.getD i .non]
theorem enumD_get {xs : List D} {i : Nat} {d : D} (h : (enumD xs)[i]? = some d) : ∃ x, xs[i]? = some x ∧ d = .tup [.int (i : Nat), x] := by
  unfold enumD at h
  rw [List.getElem?_map] at h
  by_cases hi : i < xs.length
  · rw [List.getElem?_range hi] at h
    cases h
    exact ⟨xs[i], by simp [hi], by simp [hi]⟩
  · rw [List.getElem?_eq_none (by simp; omega)] at h
    cases h
def listV (b : Bool) (x : Vl) : Option (List D) := if b || !x.b then (match x.d with
  | .lst ds => if x.lev then some ds else none
  | _ => none) else none
def gEnum (b : Bool) (g : Sl → R Vl) : Sl → R (List D) := fun S => (g S).bind fun x S1 => match listV b x with | some ds => .ok (enumD ds) S1 | none => .stuck
theorem vi_enum (b : Bool) {elts : List Expr} {kk : Nat} {xp tpos : Pos} {g : Sl → R Vl} (h : VE p X W e g) (hm : X.mg "enumerate" = none) (hg : Gl X "enumerate" := by rfl) (hs : starEach [e] X.env = [(false, eval e X.env)] := by rfl) (hs' : starEach [e] X.env = (false, eval e X.env) :: starEach [] X.env := by rfl) : VI p b X W (.Tuple elts kk tpos) (.Call (.Name "enumerate" xp) [e] [] pos) (gEnum b g) := by
  obtain ⟨t, t1, t2⟩ := h
  refine ⟨_, pi_enum hg hm (pa_cons t1 pa_nil hs') hs, fun σ0 σ G H S F Q r hw => ?_⟩
  refine VE.then (t := t) t2 r hw fun x S1 v fp G1 H1 F1 r1 g1 z1 hw1 => ?_
  cases hl : listV b x with
  | none => rw [hl] at hw1; exact hw1.elim
  | some ds =>
    rw [hl] at hw1
    unfold listV at hl
    split at hl
    case isFalse => cases hl
    rename_i hb
    obtain ⟨xb, xk, xd⟩ := x
    cases xd <;> first | (simp only at hl; cases hl; done) | skip
    simp only at hl
    split at hl
    case isFalse => cases hl
    rename_i hlev
    cases hl
    have go : ∀ {G' H' : Hp} {a : Addr} {vs : List V}, (G' a = some (.lst vs) ∨ (b = true ∧ H' a = some (.lst vs))) → FzL G' ds vs → ItOk b (Ite X.K a) G' H' (enumD ds) := fun {G' H' a vs} h0 z => by
      intro G2 H2 i1 i2 _ i3 i
      have ha : H2 a = some (.lst vs) := by
        rcases h0 with h0 | ⟨hb, h0⟩
        · exact i2 _ _ (i1 _ _ h0)
        · exact i3 hb _ _ h0
      refine ⟨fun d hd => ?_, fun hi => ⟨vs, .of ha, by rw [z.length]; simpa [enumD] using hi⟩⟩
      obtain ⟨x, hx, rfl⟩ := enumD_get hd
      obtain ⟨u, e1, e2⟩ := z.get hx
      refine ⟨⟨vs, u, .of ha, e1⟩, fun y H3 ⟨T, u', e3, hT, e4, y'⟩ => .inr ⟨T, _, [.int (i : Nat), u], rfl, e3, hT, ?_, .cons rfl (.cons (e2.inc i1) .nil)⟩⟩
      have := y' vs (.of ha)
      rw [e1] at this
      cases this
      exact e4
    cases xb with
    | true =>
      have hb' : b = true := by simpa using hb
      obtain ⟨a, vs, rfl, ha, fa⟩ := (z1.rv1 hlev).lst r1.inc
      exact ⟨a, vs, rfl, .of ha, hw1 _ G1 H1 F1 r1 g1 (go (.inr ⟨hb', ha⟩) fa)⟩
    | false =>
      obtain ⟨G2, r2, g2, z2⟩ := z1.freeze r1 g1 rfl
      simp only [Fz] at z2
      obtain ⟨a, vs, rfl, rd, fz⟩ := z2
      exact ⟨a, vs, rfl, .of (r2.inc _ _ rd), hw1 _ G2 H1 F1 r2 g2 (go (.inl rd) fz)⟩
end
end VL

set_option Elab.async false
set_option linter.all false
set_option autoImplicit false
set_option maxRecDepth 100000
namespace VL
open PySem PySem.Spec L2
open PyProof.Rows hiding St

section
variable {X : Cx} {W : WX} {p q p' : Bool} {e ea eb : Expr} {es : List Expr} {pos : Pos} {tg : Expr}
variable {σ0 σ : St} {G H G1 H1 G2 H2 : Hp} {F F1 F2 : Fps} {S S1 S2 : Sl}
/-! ### the script -/
open Classical in
noncomputable def gLenKl (K : PySem.W.Frag) (i : Nat) : Sl → R D := fun S => match S[i]? with
  | some ⟨_, some (0, .kl K' _ ns)⟩ => if K' = K then .ok (.int ns.length) S else .stuck
  | _ => .stuck
open Classical in
noncomputable def gIxKl (K : PySem.W.Frag) (i : Nat) (g : Sl → R D) : Sl → R D := fun S => match S[i]? with
  | some ⟨_, some (0, .kl K' _ ns)⟩ => if K' = K then (g S).bind fun y S1 => (match y with
    | .int j => (match atI ns j with
      | some n => .ok (.int n) S1
      | none => .stuck)
    | _ => .stuck) else .stuck
  | _ => .stuck
theorem atI_map {α β : Type} (f : α → β) {xs : List α} {j : Int} {x : α} (h : atI xs j = some x) : atI (xs.map f) j = some (f x) := by
  obtain ⟨n, h1, h2⟩ := atI_spec h
  exact atI_of (by simp) h1 (by simp [h2])
open Classical in
theorem vd_ixKl (i : Nat) {x : Str} {xp : Pos} {g : Sl → R D} (b : VD q X W eb g) (hN : X.N[i]? = some x := by rfl) (hv : Vis X.env.scope x := by first | exact Or.inl rfl | exact Or.inr (Or.inl rfl) | exact Or.inr (Or.inr rfl)) (hd : (x == ("__debug__" : Str)) = false := by decide)
    (hcd : (x == ("__classdict__" : Str)) = false := by decide) (hs : PlainIx eb := by intro _ _; rfl) : VD q X W (.Subscript (.Name x xp) eb pos) (gIxKl X.K i g) := by
  obtain ⟨tb, b1, b2⟩ := b
  refine ⟨_, pe_ix ix_seq (pe_var hN hv hd hcd) b1 hs, fun σ0 σ G H S F Q r hw => ?_⟩
  unfold gIxKl at hw
  split at hw
  case h_2 => exact hw.elim
  rename_i pin K' a ns hc
  split at hw
  case isFalse => exact hw.elim
  rename_i hK
  subst hK
  obtain ⟨_, h2, _⟩ := r.row i _ hc
  obtain ⟨v, e1, e2⟩ := h2 _ _ rfl
  have z := e2.1
  simp only [Fz] at z
  obtain ⟨rfl, hS⟩ := z
  refine ⟨_, e1, ?_⟩
  refine VD.then (t := tb) b2 r hw fun y S1 u G1 H1 F1 r1 g1 z1 hw1 => ?_
  cases y <;> first | exact hw1.elim | skip
  rename_i j
  simp only at hw1
  split at hw1
  case h_2 => exact hw1.elim
  rename_i n hn
  simp only [Fz] at z1
  subst z1
  exact .inl ⟨a, ns.map V.int, j, .int n, rfl, rfl, hS.imp ((g1.up.trans r1.inc).le.rd _ _) id, atI_map V.int hn, hw1 _ G1 H1 F1 r1 g1 rfl⟩
open Classical in
theorem vd_lenKl (i : Nat) {x : Str} {xp fp : Pos} (hm : X.mg "len" = none) (hg : Gl X "len" := by rfl) (hN : X.N[i]? = some x := by rfl) (hv : Vis X.env.scope x := by first | exact Or.inl rfl | exact Or.inr (Or.inl rfl) | exact Or.inr (Or.inr rfl)) (hd : (x == ("__debug__" : Str)) = false := by decide)
    (hcd : (x == ("__classdict__" : Str)) = false := by decide) (he : starEach [.Name x xp] X.env = (false, eval (.Name x xp) X.env) :: starEach [] X.env := by rfl) (hpl : (backTo pos (starEach [] X.env)).any (·.1) = false := by rfl) :
    VD true X W (.Call (.Name "len" fp) [.Name x xp] [] pos) (gLenKl X.K i) := by
  refine ⟨_, pe_callB call_len_seq hg hm PySem.boot_len (pa_cons (pe_var hN hv hd hcd) pa_nil he) (by decide) (by decide) he hpl, fun σ0 σ G H S F Q r hw => ?_⟩
  unfold gLenKl at hw
  split at hw
  case h_2 => exact hw.elim
  rename_i pin K' a ns hc
  split at hw
  case isFalse => exact hw.elim
  rename_i hK
  subst hK
  obtain ⟨_, h2, _⟩ := r.row i _ hc
  obtain ⟨v, e1, e2⟩ := h2 _ _ rfl
  have z := e2.1
  simp only [Fz] at z
  obtain ⟨rfl, hS⟩ := z
  refine ⟨_, e1, a, ns.map V.int, rfl, .inl (hS.imp (r.inc.le.rd _ _) id), ?_⟩
  rw [List.length_map]
  exact hw _ G H F r (.refl r) rfl
/-! ### list(range(n)) -/
def dLRange : List D → Option (List D)
  | [.int j] => if j ≤ 16777216 ∧ -(2 ^ 62) ≤ j then some (rangeD 0 j.toNat) else none
  | _ => none
theorem fzL_range {lo : Int} {n : Nat} : FzL G (rangeD lo n) ((List.range n).map fun i => V.int (lo + (i : Nat))) := by
  unfold rangeD
  generalize List.range n = l
  induction l with
  | nil => exact .nil
  | cons x l ih => exact .cons rfl ih
def gLRange (g : Sl → R D) : Sl → R Vl := fun S => (g S).bind fun d S1 => match dLRange [d] with | some xs => .ok ⟨false, 1, .lst xs⟩ S1 | none => .stuck
theorem ve_lrange {xp xr pr : Pos} {g : Sl → R D} (h : VD p X W e g) (hc : X.calm = true) (hm : X.mg "range" = none) (hml : X.mg "list" = none) (hg : Gl X "range" := by rfl) (hgl : Gl X "list" := by rfl) (na : starEach [e] X.env = (false, eval e X.env) :: starEach [] X.env := by rfl)
    (na2 : starEach [.Call (.Name "range" xr) [e] [] pr] X.env = (false, eval (.Call (.Name "range" xr) [e] [] pr) X.env) :: starEach [] X.env := by rfl) : VE p X W (.Call (.Name "list" xp) [.Call (.Name "range" xr) [e] [] pr] [] pos) (gLRange g) := by
  obtain ⟨t, t1, t2⟩ := h
  refine ⟨_, pe_listRg hc hgl hml (prg_1 hg hm t1 na) na2, fun σ0 σ G H S F Q r hw => ?_⟩
  refine VD.then (t := t) t2 r hw fun d S1 v G1 H1 F1 r1 g1 z1 hw1 => ?_
  cases d <;> first | exact hw1.elim | skip
  rename_i j
  simp only [dLRange] at hw1
  split at hw1
  case h_2 => exact hw1.elim
  rename_i xs hx
  split at hx
  case isFalse => cases hx
  rename_i hj
  cases hx
  simp only [Fz] at z1
  subst z1
  refine ⟨j, rfl, ⟨by omega, by omega, by omega, by omega, by omega⟩, ?_⟩
  have e0 : (j - 0).toNat = j.toNat := by rw [Int.sub_zero]
  unfold rgV
  rw [e0]
  exact new_lst (S' := S1) r1 g1 fzL_range hw1
end
section
variable {P : Program} {w : World} {K : PySem.W.Frag} {mg : Str → Option Value} {base : Heap}
/-- the law's promise -/
def spLaw (K : PySem.W.Frag) : Sp := fun vs H Q E => ∃ (a : Addr) (ns : List Int), vs = [.ref a] ∧ ns.length ≤ 63 ∧ Only H ∧ SqL K H a (ns.map V.int) ∧ ∀ H', Q (.bl true) H'
theorem law_ok {x qual : Str} {st : Stmt} {f : Addr} {fd : FuncData} {N : List Str} {nm : Str} {k : Nat} {gb : Sl → R Out} (Fu : Fun K x qual st f fd) (Sc : FnScope N [nm] (defScope st)) (hNl : 1 ≤ N.length)
    (hb : ∀ (cdv : Value) (A : Around) (outer : List Env) (s : Shared) (H : Hp) (E : XK), Room k (A.deeper (envOfC qual (defScope st) s.heap.objs.size f cdv)) →
      VSs (cxOf (L2.CX P w) P w K mg base N qual (defScope st) f cdv A outer s H E) (fun cls d _ H => E cls d H) (defBody st) gb)
    (true' : ∀ (a : Addr) (ns : List Int), ns.length ≤ 63 → ∃ S', gb (⟨false, some (0, .kl K a ns)⟩ :: List.replicate (N.length - 1) ⟨false, none⟩) = .ok (.rt (.fzn (.bl true))) S') :
    FnOk P w K mg base (L2.CX P w) (k + 1) f fd [nm] (spLaw K) := by
  refine Fu.okX Sc (fun vs H Q E ⟨a, ns, e, _⟩ => by rw [e]; rfl) fun cdv A outer s H vs Q E hr hsp => ?_
  obtain ⟨t, t1, t2⟩ := hb cdv A outer s H E hr
  refine ⟨t, t1, ?_⟩
  obtain ⟨a, ns, rfl, hl, hO, hS, hQ⟩ := hsp
  obtain ⟨S', hg⟩ := true' a ns hl
  have r : SR ([V.ref a].map some) H H ([V.ref a].map some) [⟨false, some (0, .kl K a ns)⟩] (fun _ => []) := by
    refine ⟨rfl, fun i c hc => ⟨fun h => ?_, fun kk d e => ?_, fun e => rfl⟩, fun _ _ => rfl, fun _ => .nil, fun i j b h => by simp at h, fun i b h => by simp at h, Inc.refl _, fun b us h => ?_⟩
    · rfl
    · cases i with
      | zero =>
        simp at hc
        subst hc
        cases e
        refine ⟨.ref a, rfl, ?_, rfl⟩
        simp only [Fz]
        exact ⟨trivial, hS⟩
      | succ i => simp at hc
    · rcases hO b with h' | ⟨o, xs, h'⟩
      · rw [h'] at h; cases h
      · rw [h'] at h; cases h
  have rs := r.start (N := N) hNl
  refine t2 _ _ H H _ _ _ rs ?_
  have e1 : N.length - [V.ref a].length = N.length - 1 := rfl
  rw [e1]
  show ((gb (⟨false, some (0, .kl K a ns)⟩ :: List.replicate (N.length - 1) ⟨false, none⟩)).wp _ _)
  rw [hg]
  intro σ' G' H' F' r' g' v fp z
  have zz := z.isFz
  simp only [Fz] at zz
  subst zz
  exact hQ H'
end
end VL

set_option Elab.async false
set_option linter.all false
set_option autoImplicit false
set_option maxRecDepth 100000
namespace VL
open PySem PySem.Spec L2
open PyProof.Rows hiding St

/-! ## callees -/
structure Cal (P : Program) (w : World) (K : PySem.W.Frag) (mg : Str → Option Value) (base : Heap) (k : Nat) (x : Str) (n : Nat) (fs : Sl → R Vl) : Prop where
  ex : ∃ a fd ps, FnOk P w K mg base (L2.CX P w) k a fd ps (SpF n fs) ∧ mg x = some (.ref a) ∧ PySem.W.keepIn K (.ref a) = true ∧ Binds K fd ps []
def allV : List Ar → Bool
  | [] => true
  | .v _ :: as => allV as
  | .io _ :: _ => false
theorem allV_io : ∀ {as : List Ar}, allV as = true → ∀ (i j : Nat), as[i]? ≠ some (Ar.io j)
  | [], _, i, j => by simp
  | .v d :: as, h, 0, j => by simp
  | .v d :: as, h, i + 1, j => by simpa using allV_io (as := as) (by simpa [allV] using h) i j
theorem allV_idx {as : List Ar} (h : allV as = true) (j : Nat) : idxIo as j = none := by
  cases e : idxIo as j with
  | none => rfl
  | some i => exact absurd (idxIo_at e) (allV_io h i j)
theorem allV_ok : ∀ {as : List Ar}, allV as = true → okIo as = true
  | [], _ => rfl
  | .v d :: as, h => by simpa [okIo] using allV_ok (as := as) (by simpa [allV] using h)
def gCallP (f : Sl → R Vl) (ga : Sl → R (List Ar)) : Sl → R Vl := fun S => (ga S).bind fun as S1 => if allV as then (match argSl as S1 with
  | none => .stuck
  | some T => (match f T with
    | .stuck => .stuck
    | .ok x _ => .ok x S1
    | .err c w _ => .err c w S1)) else .stuck
section
variable {X : Cx} {W : WX} {p q p' : Bool} {e ea eb ec : Expr} {es : List Expr} {pos : Pos}
variable {σ0 σ : St} {G H G1 H1 G2 H2 : Hp} {F F1 F2 : Fps} {S S1 S2 : Sl}
theorem backFrom_none {as : List Ar} {T : Sl} (h : ∀ j, idxIo as j = none) : ∀ (S : Sl) (n : Nat), backFrom as T n S = S
  | [], n => rfl
  | c :: cs, n => by simp [backFrom, h, backFrom_none h cs (n + 1)]
theorem call_spP {as : List Ar} {vs : List V} {n : Nat} {f : Sl → R Vl} {Q : VK} (r : SR σ0 G1 H1 σ S1 F1) (g : Gr p G H F S G1 H1 F1 S1) (a : ArOk σ G1 as vs) (hn : as.length = n)
    (hw : (if allV as then (match argSl as S1 with
      | none => R.stuck
      | some T => (match f T with
        | .stuck => .stuck
        | .ok x _ => .ok x S1
        | .err c w _ => .err c w S1)) else .stuck).wp (OkV p σ0 σ G H S F Q) (OkE σ0 σ G1 H1 S1 F1 W)) : SpF n f vs H1 Q (WE W σ) := by
  split at hw
  case isFalse => exact hw.elim
  rename_i ok
  split at hw
  case h_1 => exact hw.elim
  rename_i T hT
  have hbS : ∀ T' : Sl, backSl as T' S1 = S1 := fun T' => backFrom_none (allV_idx ok) S1 0
  have hbF : ∀ F' : Fps, backF as F' F1 = F1 := fun F' => by funext j; simp [backF, allV_idx ok j]
  have hF : ∀ i, argF as F1 i = [] := fun i => by
    unfold argF
    split
    · rename_i j e; exact absurd e (allV_io ok i j)
    · rfl
  refine ⟨by rw [a.len, hn], G1, T, argF as F1, r.args a (allV_ok ok) hT, ?_⟩
  cases hf : f T with
  | stuck => rw [hf] at hw; exact hw.elim
  | ok x T' =>
    rw [hf] at hw
    intro v fp G2 H2 F2 r2 g2 z2
    obtain ⟨r3, g3⟩ := r.back a (allV_ok ok) hT r2 g2
    have z3 := VP.back (vs := vs) r (allV_ok ok) g2 z2
    rw [hbS, hbF] at r3
    rw [hbF] at z3
    have g4 : Gr true G1 H1 F1 S1 G2 H2 F1 S1 := by
      rw [hbS, hbF] at g3
      refine ⟨g3.up, g3.new, g3.fr, g3.src, fun _ => ⟨rfl, rfl, fun b o ho => g2.fr b o ho fun i h => by rw [hF i] at h; simp at h, fun b hb => ?_⟩⟩
      rcases g2.new b hb with h | ⟨i, h⟩ | h
      · exact .inl h
      · rw [hF i] at h; simp at h
      · exact .inr h
    exact hw v fp G2 H2 F1 r3 ((g.trans g4).weak fun h => by simpa using h) (VP.from g z3)
  | err c w T' =>
    rw [hf] at hw
    intro dd G2 H2 F2 r2 g2 er
    obtain ⟨r3, g3⟩ := r.back a (allV_ok ok) hT r2 g2
    rw [hbS, hbF] at r3 g3
    exact hw dd G2 H2 F1 r3 g3 er
theorem ve_callP {x : Str} {xp : Pos} {k j n : Nat} {fs : Sl → R Vl} {ga : Sl → R (List Ar)} (C : Cal X.prog X.w X.K X.mg X.base j x n fs) (tk : Takes X W) (hr : Room k X.A) (hjk : j ≤ k)
    (ha : VAr p X W (e :: es) ga) (hl : ∀ S as S', ga S = .ok as S' → as.length = n) (hg : Gl X x := by rfl) (hdb : (x == ("__debug__" : Str)) = false := by decide) (he : starEach (e :: es) X.env = (false, eval e X.env) :: starEach es X.env := by rfl) (hpl : (backTo pos (starEach es X.env)).any (·.1) = false := by rfl) :
    VE p X W (.Call (.Name x xp) (e :: es) [] pos) (gCallP fs ga) := by
  obtain ⟨a, fd, ps, Fn, hm, hk, hb⟩ := C.ex
  obtain ⟨t, t1, t2⟩ := ha
  refine ⟨_, pe_callS Fn (hr.mono hjk) hg hm hk hb (E := WE W) (fun σ => passAt tk σ) t1 hdb he hpl, fun σ0 σ G H S F Q r hw => ?_⟩
  unfold gCallP at hw
  cases hga : ga S with
  | stuck => rw [hga] at hw; exact hw.elim
  | err c w S' =>
    rw [hga] at hw
    exact t2 σ0 σ G H S F _ r (by rw [hga]; exact hw)
  | ok as S1 =>
    rw [hga] at hw
    refine t2 σ0 σ G H S F _ r ?_
    rw [hga]
    intro vs G1 H1 F1 r1 g1 a
    exact call_spP (W := W) r1 g1 a (hl S as S1 hga) (R.wp_mono hw (fun _ _ h => h) fun c w S' h => h.from g1)
theorem ve_callC {x : Str} {xp : Pos} {k j n : Nat} {fs : Sl → R Vl} {ga : Sl → R (List Ar)} (C : Cal X.prog X.w X.K X.mg X.base j x n fs) (tk : Takes X W) (hr : Room k X.A) (hjk : j ≤ k)
    (ha : VAr p X W (e :: es) ga) (hl : ∀ S as S', ga S = .ok as S' → as.length = n) (hn : (e :: es).length = n := by rfl) (hg : Gl X x := by rfl) (hdb : (x == ("__debug__" : Str)) = false := by decide) (he : starEach (e :: es) X.env = (false, eval e X.env) :: starEach es X.env := by rfl) (hpl : (backTo pos (starEach es X.env)).any (·.1) = false := by rfl) :
    VE false X W (.Call (.Name x xp) (e :: es) [] pos) (gCall fs ga) := by
  obtain ⟨a, fd, ps, Fn, hm, hk, hb⟩ := C.ex
  exact ve_call Fn tk (hr.mono hjk) hg hm hk hb ha hn hl hdb he hpl
/-- the number of arguments, told by the form -/
theorem arN_len : ∀ S as S', gArN S = .ok as S' → as.length = 0 := fun S as S' h => by cases h; rfl
theorem arV_len {g : Sl → R D} {r : Sl → R (List Ar)} {n : Nat} (h : ∀ S as S', r S = .ok as S' → as.length = n) : ∀ S as S', gArV g r S = .ok as S' → as.length = n + 1 := fun S as S' e => by
  unfold gArV at e
  cases h1 : g S with
  | stuck => rw [h1] at e; cases e
  | err c w s => rw [h1] at e; cases e
  | ok d S1 =>
    rw [h1] at e
    simp only [R.bind] at e
    cases h2 : r S1 with
    | stuck => rw [h2] at e; cases e
    | err c w s => rw [h2] at e; cases e
    | ok as2 S2 =>
      rw [h2] at e
      cases e
      simp [h _ _ _ h2]
theorem arIo_len {i : Nat} {r : Sl → R (List Ar)} {n : Nat} (h : ∀ S as S', r S = .ok as S' → as.length = n) : ∀ S as S', gArIo i r S = .ok as S' → as.length = n + 1 := fun S as S' e => by
  unfold gArIo at e
  split at e
  · cases h2 : r S with
    | stuck => rw [h2] at e; cases e
    | err c w s => rw [h2] at e; cases e
    | ok as2 S2 =>
      rw [h2] at e
      cases e
      simp [h _ _ _ h2]
  · cases e
end
section
variable {P : Program} {w : World} {K : PySem.W.Frag} {mg : Str → Option Value} {base : Heap}
/-- nothing is promised -/
theorem cal_zero {x : Str} {n : Nat} {a : Addr} {fd : FuncData} {ps : List Str} (hn : ps.length = n) (hm : mg x = some (.ref a)) (hk : PySem.W.keepIn K (.ref a) = true) (hb : Binds K fd ps []) : Cal P w K mg base 0 x n (fun _ => .stuck) :=
  ⟨a, fd, ps, ⟨fun vs H Q E h => by rw [h.1, hn], fun A outer s H args us vs Q E _ _ _ _ h => by obtain ⟨_, G, T, F, _, hw⟩ := h; exact hw.elim⟩, hm, hk, hb⟩
theorem cal_fn {x qual : Str} {st : Stmt} {f : Addr} {fd : FuncData} {N ps : List Str} {k n m : Nat} {gb : Sl → R Out} (Fu : Fun K x qual st f fd) (hm : mg x = some (.ref f)) (hbi : Binds K fd ps []) (Sc : FnScope N ps (defScope st)) (hn : ps.length = n) (hNl : N.length - ps.length = m) (hle : ps.length ≤ N.length)
    (hb : ∀ (cdv : Value) (A : Around) (outer : List Env) (s : Shared) (H : Hp) (E : XK), Room k (A.deeper (envOfC qual (defScope st) s.heap.objs.size f cdv)) →
      VSs (cxOf (L2.CX P w) P w K mg base N qual (defScope st) f cdv A outer s H E) (fun cls d _ H => E cls d H) (defBody st) gb) : Cal P w K mg base (k + 1) x n (fnSem n m gb) := by
  subst hn hNl
  exact ⟨f, fd, ps, fn_ok Fu Sc hle hb, hm, Fu.kp, hbi⟩
end
end VL

set_option Elab.async false
set_option linter.all false
set_option autoImplicit false
set_option maxRecDepth 100000
namespace VL
open PySem PySem.Spec L2
open PyProof.Rows hiding St
theorem opd_mul : OpD (rI CMul fun i j => .int (i * j)) dMul := opd_I fun i j h => by simp only [cMul, decide_eq_true_eq] at h; exact h
theorem opd_mod : OpD (rI (fun _ j => 0 < j) fun i j => .int (i % j)) dMod := opd_I fun i j h => of_decide_eq_true h
theorem opd_div : OpD (rI CDiv fun i j => .int (i / j)) dDiv := opd_I fun i j h => by simp only [decide_eq_true_eq] at h; exact h
abbrev dPow := hI (fun i j => decide (0 ≤ j ∧ j ≤ 1000000 ∧ i.natAbs < 2 ^ 64)) (fun i j => i ^ j.toNat)
theorem opd_pow : OpD (rI CPow fun i j => .int (i ^ j.toNat)) dPow := opd_I fun i j h => by simp only [decide_eq_true_eq] at h; exact h
theorem names_mk {X : Cx} {x : Str} {c : Value} (hg : Gl X x) (hd : (x == ("__debug__" : Str)) = false) (hm : X.mg x = some c) : Names X x c := ⟨hg, hd, .inl hm⟩
section
variable {X : Cx} {W : WX} {σ0 σ : St} {G H : Hp} {F : Fps} {S : Sl}
def gRev (i : Nat) : Sl → R D := fun S => match S[i]? with
  | some ⟨_, some (1, .lst xs)⟩ => .ok .non (S.put i (some (1, .lst xs.reverse)))
  | _ => .stuck
theorem FzL.reverse : ∀ {ds : List D} {vs : List V}, FzL G ds vs → FzL G ds.reverse vs.reverse
  | [], vs, h => by simp only [FzL] at h; subst h; exact .nil
  | d :: ds, vs, h => by
    simp only [FzL] at h
    obtain ⟨v, r, rfl, h1, h2⟩ := h
    rw [List.reverse_cons, List.reverse_cons]
    exact h2.reverse.append (.cons h1 .nil)
theorem vd_reverse (i : Nat) {x : Str} {xp apos cpos : Pos} (hN : X.N[i]? = some x := by rfl) (hv : Vis X.env.scope x := by first | exact Or.inl rfl | exact Or.inr (Or.inl rfl) | exact Or.inr (Or.inr rfl)) (hd : (x == ("__debug__" : Str)) = false := by decide)
    (hcd : (x == ("__classdict__" : Str)) = false := by decide)
    (hbase : attributeBase (.Name x xp) "reverse" X.env (eval (.Name x xp) X.env) = eval (.Name x xp) X.env := by rfl) (hline : (apos.endLine == cpos.line) = true := by rfl) : VD false X W (.Call (.Attribute (.Name x xp) "reverse" apos) [] [] cpos) (gRev i) := by
  refine ⟨_, pe_bm0 PySem.F.plainAttrs_list PySem.F.slot_list_reverse PySem.F.type_list_reverse mt_reverse (pe_var hN hv hd hcd) hbase hline, fun σ0 σ G H S F Q r hw => ?_⟩
  unfold gRev at hw
  split at hw
  case h_2 => exact hw.elim
  rename_i pin xs hc
  obtain ⟨a, vs, f, hσ, hH, hF, ol⟩ := r.lst hc
  have fz := OwL.fz0 ol
  have hf : f = [] := by
    have : ∀ b ∈ f, False := OwL.dom ol (C := fun _ => False) fun d v f h => by obtain ⟨_, rfl⟩ := h; simp
    cases f with
    | nil => rfl
    | cons b f => exact (this b (by simp)).elim
  subst hf
  refine ⟨_, hσ, tyL hH, a, vs, rfl, rfl, hH, ?_⟩
  have hu : ∀ b, b ∉ F i → ∀ o, H b = some o → upd H a (.lst vs.reverse) b = some o := fun b hb o ho => by
    rw [upd_ne fun e : b = a => hb (by rw [e, hF]; simp)]; exact ho
  exact hw .non G _ (fpPut F i [a]) (r.mut' hc rfl hσ hu ⟨a, _, [], rfl, upd_same, rfl, owL_fz fz.reverse⟩ (by simp) (fun b hb => .inl (by rw [hF]; exact hb)) upd_ntup) ((Gr.refl (p := true) r).mut (T' := S) hu fun b hb => .inr (.inr (by rw [hF]; exact hb))) rfl
end
end VL

set_option Elab.async false
set_option linter.all false
set_option autoImplicit false
set_option maxRecDepth 100000
namespace VL
open PySem PySem.Spec L2
open PyProof.Rows hiding St

/-! ## evaluation -/
theorem restFrom_wipe (vs : List Nat) (S : Sl) : restFrom vs 0 (S.wipe vs) S = S := by
  apply List.ext_getElem?
  intro j
  rw [restFrom_get _ _ _ _ _ (wipe_len _ _), Nat.zero_add, wipe_get]
  by_cases hj : j ∈ vs
  · rw [if_pos (by simpa using hj)]
  · rw [if_neg (by simpa using hj)]
    cases S[j]? with
    | none => rfl
    | some c => simp [hj]
/-- a turn of a pure block: the item is left out, or gives y -/
def Turn1 (ga : D → Sl → Option Sl) (gt : Sl → R Bool) (ge : Sl → R D) (S : Sl) (x : D) (o : Option D) : Prop :=
  ∃ S1, ga x S = some S1 ∧ match o with
    | none => ∃ S2, gt S1 = .ok false S2
    | some y => ∃ S2 S3, gt S1 = .ok true S2 ∧ ge S2 = .ok y S3
theorem loopLc_pure {vs : List Nat} {ga : D → Sl → Option Sl} {gt : Sl → R Bool} {ge : Sl → R D} {S : Sl} (f : D → Option D) : ∀ {xs : List D}, (∀ x ∈ xs, Turn1 ga gt ge S x (f x)) → loopLc true vs ga gt ge xs S = .ok (xs.filterMap f) S
  | [], _ => rfl
  | x :: xs, h => by
    obtain ⟨S1, h1, h2⟩ := h x (by simp)
    have ih := loopLc_pure (vs := vs) f (xs := xs) fun y hy => h y (by simp [hy])
    cases hf : f x with
    | none =>
      rw [hf] at h2
      obtain ⟨S2, h2⟩ := h2
      simp only [loopLc, h1, h2, R.bind, Bool.true_or, if_true, Bool.false_eq_true, if_false, ih]
      simp [List.filterMap_cons, hf]
    | some y =>
      rw [hf] at h2
      obtain ⟨S2, S3, h2, h3⟩ := h2
      simp only [loopLc, h1, h2, h3, R.bind, Bool.true_or, if_true, ih]
      simp [List.filterMap_cons, hf]
theorem gLc_pure {vs : List Nat} {gi : Sl → R (List D)} {ga : D → Sl → Option Sl} {gt : Sl → R Bool} {ge : Sl → R D} {S : Sl} {xs : List D} (f : D → Option D) (hi : gi S = .ok xs S) (hw : wipeOk vs S = true) (hl : xs.length ≤ 16777216) (h : ∀ x ∈ xs, Turn1 ga gt ge (S.wipe vs) x (f x)) :
    gLc true vs gi ga gt ge S = .ok ⟨false, 1, .lst (xs.filterMap f)⟩ S := by
  unfold gLc
  rw [hi]
  simp only [R.bind, hw, lineOk, hl, decide_true, Bool.and_self, if_true]
  rw [loopLc_pure f h]
  simp only [R.noerr, R.bind, restFrom_wipe]
/-- a loop by its invariant -/
theorem loopFor_inv {ga : D → Sl → Option Sl} {gb : Sl → R Out} (I : Nat → Sl → Prop) : ∀ {xs : List D} {i : Nat} {S : Sl}, I i S → (∀ j x S, xs[j]? = some x → I (i + j) S → ∃ S1 S2 o, ga x S = some S1 ∧ gb S1 = .ok o S2 ∧ (o = .nx ∨ o = .ct) ∧ I (i + j + 1) S2) → ∃ S', loopFor ga gb xs S = .ok .nx S' ∧ I (i + xs.length) S'
  | [], i, S, h0, _ => ⟨S, rfl, h0⟩
  | x :: xs, i, S, h0, h => by
    obtain ⟨S1, S2, o, h1, h2, h3, h4⟩ := h 0 x S rfl h0
    obtain ⟨S', e1, e2⟩ := loopFor_inv (ga := ga) (gb := gb) I (xs := xs) (i := i + 1) (S := S2) h4 fun j y S hy hI => by
      have := h (j + 1) y S (by simpa using hy) (by rw [show i + (j + 1) = i + 1 + j by omega]; exact hI)
      rw [show i + (j + 1) + 1 = i + 1 + j + 1 by omega] at this
      exact this
    refine ⟨S', ?_, by rw [List.length_cons, show i + (xs.length + 1) = i + 1 + xs.length by omega]; exact e2⟩
    simp only [loopFor, h1, h2, R.bind]
    rcases h3 with rfl | rfl <;> exact e1
/-- a loop that may return: the first item for which it does -/
theorem loopFor_find {ga : D → Sl → Option Sl} {gb : Sl → R Out} (I J : Sl → Prop) (P : D → Bool) (v : Vl) : ∀ {xs : List D} {S : Sl}, I S → (∀ x ∈ xs, ∀ S, I S → ∃ S1 S2, ga x S = some S1 ∧ (if P x then gb S1 = .ok (.rt v) S2 ∧ J S2 else (gb S1 = .ok .nx S2 ∨ gb S1 = .ok .ct S2) ∧ I S2)) →
    ∃ S', if xs.any P then loopFor ga gb xs S = .ok (.rt v) S' ∧ J S' else loopFor ga gb xs S = .ok .nx S' ∧ I S'
  | [], S, h0, _ => ⟨S, by simp [loopFor, h0]⟩
  | x :: xs, S, h0, h => by
    obtain ⟨S1, S2, h1, h2⟩ := h x (by simp) S h0
    cases hp : P x with
    | true =>
      rw [if_pos hp] at h2
      exact ⟨S2, by simp [loopFor, h1, h2.1, h2.2, hp]⟩
    | false =>
      rw [if_neg (by simp [hp])] at h2
      obtain ⟨S', e⟩ := loopFor_find (ga := ga) (gb := gb) I J P v (xs := xs) (S := S2) h2.2 fun y hy => h y (by simp [hy])
      refine ⟨S', ?_⟩
      have e2 : loopFor ga gb (x :: xs) S = loopFor ga gb xs S2 := by
        rcases h2.1 with h3 | h3 <;> simp [loopFor, h1, h3]
      rw [e2]
      simpa [hp] using e
/-! data of ints -/
theorem pyL_ints (l : List Int) : D.pyL (l.map D.int) = l.map PyData.int := by
  induction l with
  | nil => rfl
  | cons x l ih => simp [D.pyL, D.py, ih]
theorem plainL_ints (l : List Int) : D.plainL (l.map D.int) = true := by
  induction l with
  | nil => rfl
  | cons x l ih => simp [D.plainL, D.plain, ih]
theorem eqv_int (a b : Int) : PyData.eqv (.int a) (.int b) = (a == b) := by first | rfl | simp [PyData.eqv]
theorem dInB_int (i : Int) (l : List Int) : dInB (.int i) (l.map D.int) = decide (i ∈ l) := by
  unfold dInB
  rw [pyL_ints, List.any_map]
  have : (fun x : Int => PyData.eqv (.int x) (.int i)) = fun x => x == i := by funext x; exact eqv_int x i
  show l.any (fun x => PyData.eqv (.int x) (.int i)) = _
  rw [this]
  apply Bool.eq_iff_iff.mpr
  simp
theorem okIn_int (i : Int) (l : List Int) : okIn (.int i) (l.map D.int) = true := by
  unfold okIn
  rw [plainL_ints]
  simp [D.plain, D.py, PyData.depth]
theorem dIn_lst (neg : Bool) (i : Int) (l : List Int) : dIn neg (.int i) (.lst (l.map D.int)) = some (.bl (if neg then !decide (i ∈ l) else decide (i ∈ l))) := by
  simp [dIn, D.items, okIn_int, dInB_int]
theorem dIn_tup (neg : Bool) (i : Int) (l : List Int) : dIn neg (.int i) (.tup (l.map D.int)) = some (.bl (if neg then !decide (i ∈ l) else decide (i ∈ l))) := by
  simp [dIn, D.items, okIn_int, dInB_int]
theorem dEq_int (neg : Bool) (a b : Int) : dEq neg (.int a) (.int b) = some (.bl (if neg then !(a == b) else a == b)) := by
  simp [dEq, okEq, D.plain, D.py, PyData.depth, dEqB, eqv_int]
theorem filterMap_filter {α : Type} (p : α → Bool) (l : List α) : l.filterMap (fun x => if p x then some x else none) = l.filter p := by
  induction l with
  | nil => rfl
  | cons x l ih =>
    simp only [List.filterMap_cons, List.filter_cons]
    by_cases h : p x <;> simp [h, ih]
/-- [x for x in xs if p(x)] -/
theorem gLc_filter {vs : List Nat} {v : Nat} {gi : Sl → R (List D)} {gt : Sl → R Bool} {S : Sl} {xs : List D} (p : D → Bool) (hi : gi S = .ok xs S) (hw : wipeOk vs S = true) (hl : xs.length ≤ 16777216) (hv : (S.wipe vs)[v]? = some ⟨false, none⟩)
    (h : ∀ x ∈ xs, gt ((S.wipe vs).put v (some (0, x))) = .ok (p x) ((S.wipe vs).put v (some (0, x)))) : gLc true vs gi (gaName v) gt (gVar v) S = .ok ⟨false, 1, .lst (xs.filter p)⟩ S := by
  rw [gLc_pure (fun x => if p x then some x else none) hi hw hl fun x hx => ?_, filterMap_filter]
  refine ⟨(S.wipe vs).put v (some (0, x)), by simp only [gaName, hv], ?_⟩
  have hg : gVar v ((S.wipe vs).put v (some (0, x))) = .ok x ((S.wipe vs).put v (some (0, x))) := by
    unfold gVar
    rw [put_at hv, if_pos rfl]
  have := h x hx
  cases hp : p x with
  | true =>
    rw [hp] at this
    rw [if_pos rfl]
    exact ⟨_, _, this, hg⟩
  | false =>
    rw [hp] at this
    rw [if_neg (by simp)]
    exact ⟨_, this⟩
theorem filter_ints (p : D → Bool) (l : List Int) : (l.map D.int).filter p = (l.filter fun i => p (.int i)).map D.int := by
  rw [List.filter_map]; rfl
/-- .. of ints -/
theorem gLc_filterI {vs : List Nat} {v : Nat} {gi : Sl → R (List D)} {gt : Sl → R Bool} {S : Sl} {l : List Int} (p : Int → Bool) (hi : gi S = .ok (l.map D.int) S) (hw : wipeOk vs S = true) (hl : l.length ≤ 16777216) (hv : (S.wipe vs)[v]? = some ⟨false, none⟩)
    (h : ∀ i ∈ l, gt ((S.wipe vs).put v (some (0, .int i))) = .ok (p i) ((S.wipe vs).put v (some (0, .int i)))) : gLc true vs gi (gaName v) gt (gVar v) S = .ok ⟨false, 1, .lst ((l.filter p).map D.int)⟩ S := by
  rw [gLc_filter (fun d => match d with | .int i => p i | _ => false) hi hw (by simpa using hl) hv fun x hx => ?_, filter_ints]
  obtain ⟨i, hi, rfl⟩ := List.mem_map.mp hx
  exact h i hi
/-- [e(x) for x in xs if p(x)], the items told by a map -/
theorem loopLc_map {α : Type} (c : α → D) (p : α → Bool) (e : α → D) {vs : List Nat} {ga : D → Sl → Option Sl} {gt : Sl → R Bool} {ge : Sl → R D} {S : Sl} : ∀ {L : List α}, (∀ a ∈ L, Turn1 ga gt ge S (c a) (if p a then some (e a) else none)) → loopLc true vs ga gt ge (L.map c) S = .ok ((L.filter p).map e) S
  | [], _ => rfl
  | a :: L, h => by
    obtain ⟨S1, h1, h2⟩ := h a (by simp)
    have ih := loopLc_map c p e (vs := vs) (L := L) fun y hy => h y (by simp [hy])
    cases hf : p a with
    | false =>
      rw [if_neg (by simp [hf])] at h2
      obtain ⟨S2, h2⟩ := h2
      simp only [List.map_cons, loopLc, h1, h2, R.bind, Bool.true_or, if_true, Bool.false_eq_true, if_false, ih]
      simp [List.filter_cons, hf]
    | true =>
      rw [if_pos hf] at h2
      obtain ⟨S2, S3, h2, h3⟩ := h2
      simp only [List.map_cons, loopLc, h1, h2, h3, R.bind, Bool.true_or, if_true, ih]
      simp [List.filter_cons, hf]
theorem gLc_map {α : Type} (c : α → D) (p : α → Bool) (e : α → D) {vs : List Nat} {v : Nat} {gi : Sl → R (List D)} {gt : Sl → R Bool} {ge : Sl → R D} {S : Sl} {L : List α} (hi : gi S = .ok (L.map c) S) (hw : wipeOk vs S = true) (hl : L.length ≤ 16777216) (hv : (S.wipe vs)[v]? = some ⟨false, none⟩)
    (h : ∀ a ∈ L, gt ((S.wipe vs).put v (some (0, c a))) = .ok (p a) ((S.wipe vs).put v (some (0, c a))) ∧ (p a = true → ∃ S3, ge ((S.wipe vs).put v (some (0, c a))) = .ok (e a) S3)) :
    gLc true vs gi (gaName v) gt ge S = .ok ⟨false, 1, .lst ((L.filter p).map e)⟩ S := by
  unfold gLc
  rw [hi]
  simp only [R.bind, hw, lineOk, List.length_map, hl, decide_true, Bool.and_self, if_true]
  rw [loopLc_map c p e fun a ha => ?_]
  · simp only [R.noerr, R.bind, restFrom_wipe]
  · refine ⟨(S.wipe vs).put v (some (0, c a)), by simp only [gaName, hv], ?_⟩
    obtain ⟨h1, h2⟩ := h a ha
    cases hp : p a with
    | true =>
      rw [hp] at h1
      obtain ⟨S3, h3⟩ := h2 hp
      exact ⟨_, S3, h1, h3⟩
    | false =>
      rw [hp] at h1
      exact ⟨_, h1⟩
/-- a loop that may return, the items told by a map -/
theorem loopFor_findM {α : Type} (c : α → D) {ga : D → Sl → Option Sl} {gb : Sl → R Out} (I J : Sl → Prop) (P : α → Bool) (v : Vl) : ∀ {L : List α} {S : Sl}, I S → (∀ a ∈ L, ∀ S, I S → ∃ S1 S2, ga (c a) S = some S1 ∧ (if P a then gb S1 = .ok (.rt v) S2 ∧ J S2 else (gb S1 = .ok .nx S2 ∨ gb S1 = .ok .ct S2) ∧ I S2)) →
    ∃ S', if L.any P then loopFor ga gb (L.map c) S = .ok (.rt v) S' ∧ J S' else loopFor ga gb (L.map c) S = .ok .nx S' ∧ I S'
  | [], S, h0, _ => ⟨S, by simp [loopFor, h0]⟩
  | x :: xs, S, h0, h => by
    obtain ⟨S1, S2, h1, h2⟩ := h x (by simp) S h0
    cases hp : P x with
    | true =>
      rw [if_pos hp] at h2
      exact ⟨S2, by simp [loopFor, h1, h2.1, h2.2, hp]⟩
    | false =>
      rw [if_neg (by simp [hp])] at h2
      obtain ⟨S', e⟩ := loopFor_findM c (ga := ga) (gb := gb) I J P v (L := xs) (S := S2) h2.2 fun y hy => h y (by simp [hy])
      refine ⟨S', ?_⟩
      have e2 : loopFor ga gb ((x :: xs).map c) S = loopFor ga gb (xs.map c) S2 := by
        rcases h2.1 with h3 | h3 <;> simp [loopFor, h1, h3]
      rw [e2]
      simpa [hp] using e
theorem gThen_nx {a b : Sl → R Out} {S S1 : Sl} (h : a S = .ok .nx S1) : gThen a b S = b S1 := by unfold gThen; rw [h]
theorem gThen_rt {a b : Sl → R Out} {S S1 : Sl} {x : Vl} (h : a S = .ok (.rt x) S1) : gThen a b S = .ok (.rt x) S1 := by unfold gThen; rw [h]
theorem gThen_ct {a b : Sl → R Out} {S S1 : Sl} (h : a S = .ok .ct S1) : gThen a b S = .ok .ct S1 := by unfold gThen; rw [h]
theorem gThen_err {a b : Sl → R Out} {S S1 : Sl} {c : Addr} {w : Option (Str × D)} (h : a S = .err c w S1) : gThen a b S = .err c w S1 := by unfold gThen; rw [h]
theorem gFor_eq {gi : Sl → R (List D)} {ga : D → Sl → Option Sl} {gb : Sl → R Out} {S S1 : Sl} {xs : List D} (h : gi S = .ok xs S1) : gFor gi ga gb S = loopFor ga gb xs S1 := by unfold gFor; rw [h]
theorem gSet_eq {i : Nat} {g : Sl → R Vl} {S S1 : Sl} {k : Nat} {d : D} {v : Option (Nat × D)} (h : g S = .ok ⟨false, k, d⟩ S1) (hc : S1[i]? = some ⟨false, v⟩) : gSet i g S = .ok .nx (S1.put i (some (k, d))) := by
  unfold gSet; rw [h]; simp [R.bind, hc]
theorem gIfS_t {c : Sl → R Bool} {a b : Sl → R Out} {S S1 : Sl} (h : c S = .ok true S1) : gIfS c a b S = a S1 := by unfold gIfS; rw [h]; rfl
theorem gIfS_f {c : Sl → R Bool} {a b : Sl → R Out} {S S1 : Sl} (h : c S = .ok false S1) : gIfS c a b S = b S1 := by unfold gIfS; rw [h]; rfl
theorem gFz_eq {g : Sl → R Vl} {S S1 : Sl} {k : Nat} {d : D} (h : g S = .ok ⟨false, k, d⟩ S1) : gV (gD g) S = .ok ⟨false, 0, d⟩ S1 := by unfold gV gD; rw [h]; rfl
theorem fnSem_rt {n m : Nat} {gb : Sl → R Out} {T S' : Sl} {x : Vl} (h : gb (T ++ List.replicate m ⟨false, none⟩) = .ok (.rt x) S') (hl : n ≤ S'.length) : fnSem n m gb T = .ok x (keepN n S') := by unfold fnSem; rw [h]; simp [hl]
theorem fnSem_err {n m : Nat} {gb : Sl → R Out} {T S' : Sl} {c : Addr} {w : Option (Str × D)} (h : gb (T ++ List.replicate m ⟨false, none⟩) = .err c w S') (hl : n ≤ S'.length) : fnSem n m gb T = .err c w (keepN n S') := by unfold fnSem; rw [h]; simp [hl]
theorem gCallP_eq {f : Sl → R Vl} {ga : Sl → R (List Ar)} {S S1 T T' : Sl} {as : List Ar} {x : Vl} (h : ga S = .ok as S1) (ha : allV as = true) (hT : argSl as S1 = some T) (hf : f T = .ok x T') : gCallP f ga S = .ok x S1 := by
  unfold gCallP; rw [h]; simp [R.bind, ha, hT, hf]
theorem sIx_none0 {n : Nat} {d : Nat} : HT.sIx n d none = d := by first | rfl | simp [HT.sIx]
theorem sIx_nat {n k d : Nat} (h : k ≤ n) : HT.sIx n d (some (k : Int)) = k := by
  rw [HT.sIx_nat]
  exact Nat.min_eq_left h
theorem cutD_take {α : Type} {xs : List α} {k : Nat} (h : k ≤ xs.length) : cutD xs none (some (k : Int)) = xs.take k := by
  unfold cutD
  rw [sIx_none0, sIx_nat h]
  simp
theorem cutD_drop {α : Type} {xs : List α} {k : Nat} (h : k ≤ xs.length) : cutD xs (some (k : Int)) none = xs.drop k := by
  unfold cutD
  rw [sIx_nat h, sIx_none0]
  exact List.take_of_length_le (by simp)
theorem atI_nat {α : Type} {xs : List α} {k : Nat} (h : k < xs.length) : atI xs (k : Int) = some xs[k] := by
  unfold atI ixN
  simp [h]
theorem rangeD_map (n : Nat) : rangeD 0 n = (List.range n).map fun i => D.int (i : Nat) := by
  unfold rangeD
  simp
end VL

set_option Elab.async false
set_option linter.all false
set_option autoImplicit false
set_option maxRecDepth 100000
namespace VL
open PySem PySem.Spec L2
open PyProof.Rows hiding St

def tI (l : List Int) : D := .tup (l.map D.int)
def lI (l : List Int) : D := .lst (l.map D.int)
theorem dataLe_int (a b : Int) : PySem.W.dataLe false D.py (.int a) (.int b) = decide (a ≤ b) := by
  have h := PySem.W.dataLt_int b a
  show (!(PySem.W.dataLt (.int b) (.int a))) = _
  rw [h]; apply Bool.eq_iff_iff.mpr; simp
def srt (l : List Int) : List Int := l.mergeSort fun a b => decide (a ≤ b)
theorem srt_perm (l : List Int) : (srt l).Perm l := List.mergeSort_perm l _
theorem srt_len (l : List Int) : (srt l).length = l.length := (srt_perm l).length_eq
theorem srt_mem {l : List Int} {x : Int} : x ∈ srt l ↔ x ∈ l := (srt_perm l).mem_iff
theorem srt_sorted (l : List Int) : (srt l).Pairwise (fun a b => a ≤ b) := by
  have := List.pairwise_mergeSort (le := fun (a b : Int) => decide (a ≤ b)) (fun a b c h1 h2 => by simp at *; omega) (fun a b => by simp; omega) l
  exact this.imp (by simp)
theorem srt_eq {a b : List Int} : srt a = srt b ↔ a.Perm b := by
  constructor
  · intro h
    exact (srt_perm a).symm.trans (h ▸ srt_perm b)
  · intro h
    exact List.Perm.eq_of_pairwise (le := fun a b => a ≤ b) (fun x y _ _ h1 h2 => Int.le_antisymm h1 h2) (srt_sorted a) (srt_sorted b) ((srt_perm a).trans (h.trans (srt_perm b).symm))
theorem alikeAll_ints : ∀ a b : List Int, PySem.W.alikeAll (a.map PyData.int) (b.map PyData.int) = true
  | [], _ => by simp [PySem.W.alikeAll]
  | _ :: _, [] => by simp [PySem.W.alikeAll]
  | x :: a, y :: b => by simp [PySem.W.alikeAll, PySem.W.alike, alikeAll_ints a b]
theorem depthAll_ints : ∀ l : List Int, PyData.depthAll (l.map PyData.int) ≤ 1
  | [] => by simp [PyData.depthAll]
  | x :: l => by
    have := depthAll_ints l
    simp [PyData.depthAll, PyData.depth]; omega
theorem py_tI (l : List Int) : (tI l).py = .tuple (l.map PyData.int) := by simp [tI, D.py, pyL_ints]
theorem plain_tI (l : List Int) : (tI l).plain = true := by simp [tI, D.plain, plainL_ints]
theorem sortOk_ints (l : List Int) (hl : l.length ≤ 16777216) : sortOk (l.map D.int) = true := by
  simp [sortOk, lineOk, hl, D.plain, D.py, PySem.W.alike, D.isTup, D.isNon, PyData.depth]
theorem sortOk_rows (L : List (List Int)) (hl : L.length ≤ 16777216) : sortOk (L.map tI) = true := by
  have h1 : ∀ l : List Int, (tI l).isTup = true := fun _ => rfl
  have h2 : ∀ l : List Int, (tI l).py.depth ≤ 60 := fun l => by
    rw [py_tI]; have := depthAll_ints l; simp [PyData.depth]; omega
  simp only [sortOk, lineOk, List.length_map, hl, decide_true, Bool.true_and, Bool.and_eq_true, List.all_map, List.all_eq_true, Function.comp, decide_eq_true_eq, Bool.or_eq_true]
  refine ⟨⟨⟨fun x _ => plain_tI x, fun x _ y _ => ?_⟩, .inl fun x _ => h1 x⟩, fun x _ => h2 x⟩
  rw [py_tI, py_tI, PySem.W.alike]; exact alikeAll_ints x y
theorem dSorted_ints {d : D} {l : List Int} (h : d = tI l ∨ d = lI l) (hl : l.length ≤ 16777216) : dSorted d = some ((srt l).map D.int) := by
  have e : (l.map D.int).mergeSort (PySem.W.dataLe false D.py) = (srt l).map D.int := by
    unfold srt
    rw [List.map_mergeSort (s := PySem.W.dataLe false D.py) (f := D.int) (r := fun a b => decide (a ≤ b)) (fun a _ b _ => (dataLe_int a b).symm)]
  rcases h with rfl | rfl <;> simp [dSorted, tI, lI, D.items, sortOk_ints l hl, e]
def srtR (L : List (List Int)) : List (List Int) := L.mergeSort fun a b => PySem.W.dataLe false D.py (tI a) (tI b)
theorem srtR_mem {L : List (List Int)} {x : List Int} : x ∈ srtR L ↔ x ∈ L := (List.mergeSort_perm L _).mem_iff
theorem dSorted_rows (L : List (List Int)) (hl : L.length ≤ 16777216) : dSorted (.lst (L.map tI)) = some ((srtR L).map tI) := by
  have e : (L.map tI).mergeSort (PySem.W.dataLe false D.py) = (srtR L).map tI := by
    unfold srtR
    rw [List.map_mergeSort (s := PySem.W.dataLe false D.py) (f := tI) (r := fun a b => PySem.W.dataLe false D.py (tI a) (tI b)) (fun a _ b _ => rfl)]
  simp [dSorted, D.items, sortOk_rows L hl, e]
theorem ints_map : ∀ l : List Int, D.ints (l.map D.int) = some l
  | [] => rfl
  | x :: l => by simp [D.ints, ints_map l]
theorem tints_map : ∀ L : List (List Int), D.tints (L.map tI) = some L
  | [] => rfl
  | x :: l => by
    have h := tints_map l
    show D.tints (.tup (x.map D.int) :: l.map tI) = _
    unfold D.tints
    rw [ints_map, h]
theorem dLenSet_rows (L : List (List Int)) (hl : L.length < 64) : dLenSet (.lst (L.map tI)) = some (.int (nub L).length) := by
  cases L with
  | nil => rfl
  | cons x L =>
    have h1 : D.ints ((x :: L).map tI) = none := by simp [tI, D.ints]
    simp only [dLenSet, List.length_map, hl, if_true, h1, tints_map]
theorem dLenSet_ints (l : List Int) (hl : l.length < 64) : dLenSet (lI l) = some (.int (nub l).length) := by
  simp only [lI, dLenSet, List.length_map, hl, if_true, ints_map]
theorem nub_len {α : Type} [DecidableEq α] : ∀ l : List α, (nub l).length ≤ l.length
  | [] => by simp [nub]
  | x :: l => by unfold nub; have := nub_len l; split <;> simp <;> omega
theorem nub_lt {α : Type} [DecidableEq α] : ∀ l : List α, (nub l).length < l.length ↔ ¬ l.Nodup
  | [] => by simp [nub]
  | x :: l => by
    have h1 := nub_lt l
    have h2 := nub_len l
    unfold nub
    by_cases hx : x ∈ l
    · simp [hx]; omega
    · simp [hx]; exact h1
end VL

set_option Elab.async false
set_option linter.all false
set_option autoImplicit false
set_option maxRecDepth 100000
namespace VL
open PySem PySem.Spec L2
open PyProof.Rows hiding St

/-! ## running by wp: the run is rewritten, what comes after stays shut -/
class Po (α : Type) where
  ok : α → Sl → Prop
  er : Addr → Option (Str × D) → Sl → Prop
def Wq {α : Type} (r : R α) [p : Po α] : Prop := r.wp p.ok p.er
abbrev noE : Addr → Option (Str × D) → Sl → Prop := fun _ _ _ => False
section
variable {α β : Type}
theorem q_bind (r : R α) (f : α → Sl → R β) (p : Po β) : @Wq β (r.bind f) p = @Wq α r ⟨fun a s => @Wq β (f a s) p, p.er⟩ := by cases r <;> rfl
theorem q_ok (a : α) (S : Sl) (p : Po α) : @Wq α (.ok a S) p = p.ok a S := rfl
theorem q_err (c : Addr) (w : Option (Str × D)) (S : Sl) (p : Po α) : @Wq α (.err c w S) p = p.er c w S := rfl
theorem q_stuck (p : Po α) : @Wq α .stuck p = False := rfl
theorem q_if (c : Prop) [Decidable c] (a b : R α) (p : Po α) : @Wq α (if c then a else b) p = if c then @Wq α a p else @Wq α b p := by
  by_cases h : c <;> simp [h]
theorem q_opt (o : Option β) (f : β → R α) (p : Po α) : @Wq α (match o with | some d => f d | none => .stuck) p = match o with | some d => @Wq α (f d) p | none => False := by cases o <;> rfl
theorem q_iff {r : R α} {a : α} {S : Sl} : @Wq α r ⟨fun x S' => x = a ∧ S' = S, noE⟩ ↔ r = .ok a S := by
  cases r with
  | stuck => simp [Wq, R.wp]
  | ok x s => simp [Wq, R.wp]
  | err c w s => simp [Wq, R.wp, noE]
theorem q_eq {r : R α} {a : α} {S : Sl} (h : @Wq α r ⟨fun x S' => x = a ∧ S' = S, noE⟩) : r = .ok a S := q_iff.mp h
theorem q_er {r : R α} {c : Addr} {w : Option (Str × D)} {S : Sl} (h : @Wq α r ⟨fun _ _ => False, fun c' w' S' => c' = c ∧ w' = w ∧ S' = S⟩) : r = .err c w S := by
  cases r with
  | stuck => exact h.elim
  | ok x s => exact h.elim
  | err c' w' s => obtain ⟨rfl, rfl, rfl⟩ := h; rfl
theorem q_to {r : R α} {a : α} {S : Sl} {p : Po α} (h : r = .ok a S) (k : p.ok a S) : @Wq α r p := by rw [h]; exact k
theorem q_mono {r : R α} {p q : Po α} (h : @Wq α r p) (h1 : ∀ a s, p.ok a s → q.ok a s) (h2 : ∀ c w s, p.er c w s → q.er c w s) : @Wq α r q := R.wp_mono h h1 h2
end
theorem po_congr {α : Type} {r : R α} {ok ok' : α → Sl → Prop} {er : Addr → Option (Str × D) → Sl → Prop} (h : ∀ a s, ok a s = ok' a s) : @Wq α r ⟨ok, er⟩ = @Wq α r ⟨ok', er⟩ := by
  have : ok = ok' := by funext a s; exact h a s
  rw [this]
/-! the state -/
theorem put_0 (c : Cell) (S : Sl) (v : Option (Nat × D)) : Sl.put (c :: S) 0 v = ⟨c.pin, v⟩ :: S := rfl
theorem put_s (c : Cell) (S : Sl) (i : Nat) (v : Option (Nat × D)) : Sl.put (c :: S) (i + 1) v = c :: Sl.put S i v := by
  unfold Sl.put
  simp only [List.getElem?_cons_succ]
  cases S[i]? <;> rfl
theorem hI_int (C : Int → Int → Bool) (f : Int → Int → Int) (i j : Int) : hI C f (.int i) (.int j) = if C i j then some (.int (f i j)) else none := rfl
theorem hB_int (f : Int → Int → Bool) (i j : Int) : hB f (.int i) (.int j) = some (.bl (f i j)) := rfl
section
theorem q_gD (g : Sl → R Vl) {S : Sl} (p : Po D) : @Wq D (gD g S) p = @Wq Vl (g S) ⟨fun x S1 => @Wq D (if x.b then .stuck else .ok x.d S1) p, p.er⟩ := by
  unfold gD
  rw [q_bind] <;> refine po_congr fun x S1 => ?_ <;> first | rfl | (rw [q_if] <;> rfl) | (rw [q_bind] <;> first | rfl | (refine po_congr fun y S2 => ?_ <;> first | rfl | (rw [q_bind] <;> rfl)))
theorem q_gV (g : Sl → R D) {S : Sl} (p : Po Vl) : @Wq Vl (gV g S) p = @Wq D (g S) ⟨fun d S1 => p.ok ⟨false, 0, d⟩ S1, p.er⟩ := by
  unfold gV
  rw [q_bind] <;> refine po_congr fun x S1 => ?_ <;> first | rfl | (rw [q_if] <;> rfl) | (rw [q_bind] <;> first | rfl | (refine po_congr fun y S2 => ?_ <;> first | rfl | (rw [q_bind] <;> rfl)))
theorem q_gOp (h : D → D → Option D) (ga gb : Sl → R D) {S : Sl} (p : Po D) : @Wq D (gOp h ga gb S) p = @Wq D (ga S) ⟨fun x S1 => @Wq D (gb S1) ⟨fun y S2 => @Wq D (match h x y with | some d => .ok d S2 | none => .stuck) p, p.er⟩, p.er⟩ := by
  unfold gOp
  rw [q_bind] <;> refine po_congr fun x S1 => ?_ <;> first | rfl | (rw [q_if] <;> rfl) | (rw [q_bind] <;> first | rfl | (refine po_congr fun y S2 => ?_ <;> first | rfl | (rw [q_bind] <;> rfl)))
theorem q_gBool (g : Sl → R D) {S : Sl} (p : Po Bool) : @Wq Bool (gBool g S) p = @Wq D (g S) ⟨fun d S1 => @Wq Bool (match d with | .bl b => .ok b S1 | _ => .stuck) p, p.er⟩ := by
  unfold gBool
  rw [q_bind] <;> refine po_congr fun x S1 => ?_ <;> first | rfl | (rw [q_if] <;> rfl) | (rw [q_bind] <;> first | rfl | (refine po_congr fun y S2 => ?_ <;> first | rfl | (rw [q_bind] <;> rfl)))
theorem q_gCons (g : Sl → R D) (r : Sl → R (List D)) {S : Sl} (p : Po (List D)) : @Wq (List D) (gCons g r S) p = @Wq D (g S) ⟨fun d S1 => @Wq (List D) (r S1) ⟨fun ds S2 => p.ok (d :: ds) S2, p.er⟩, p.er⟩ := by
  unfold gCons
  rw [q_bind] <;> refine po_congr fun x S1 => ?_ <;> first | rfl | (rw [q_if] <;> rfl) | (rw [q_bind] <;> first | rfl | (refine po_congr fun y S2 => ?_ <;> first | rfl | (rw [q_bind] <;> rfl)))
theorem q_gLst (g : Sl → R (List D)) {S : Sl} (p : Po Vl) : @Wq Vl (gLst g S) p = @Wq (List D) (g S) ⟨fun ds S1 => @Wq Vl (if lineOk ds then .ok ⟨false, 1, .lst ds⟩ S1 else .stuck) p, p.er⟩ := by
  unfold gLst
  rw [q_bind] <;> refine po_congr fun x S1 => ?_ <;> first | rfl | (rw [q_if] <;> rfl) | (rw [q_bind] <;> first | rfl | (refine po_congr fun y S2 => ?_ <;> first | rfl | (rw [q_bind] <;> rfl)))
theorem q_gTup (g : Sl → R (List D)) {S : Sl} (p : Po D) : @Wq D (gTup g S) p = @Wq (List D) (g S) ⟨fun ds S1 => @Wq D (if lineOk ds then .ok (.tup ds) S1 else .stuck) p, p.er⟩ := by
  unfold gTup
  rw [q_bind] <;> refine po_congr fun x S1 => ?_ <;> first | rfl | (rw [q_if] <;> rfl) | (rw [q_bind] <;> first | rfl | (refine po_congr fun y S2 => ?_ <;> first | rfl | (rw [q_bind] <;> rfl)))
theorem q_gApp (h : List D → Option D) (ga : Sl → R (List D)) {S : Sl} (p : Po D) : @Wq D (gApp h ga S) p = @Wq (List D) (ga S) ⟨fun ds S1 => @Wq D (match h ds with | some d => .ok d S1 | none => .stuck) p, p.er⟩ := by
  unfold gApp
  rw [q_bind] <;> refine po_congr fun x S1 => ?_ <;> first | rfl | (rw [q_if] <;> rfl) | (rw [q_bind] <;> first | rfl | (refine po_congr fun y S2 => ?_ <;> first | rfl | (rw [q_bind] <;> rfl)))
theorem q_gApp1 (h : D → Option D) (g : Sl → R Vl) {S : Sl} (p : Po D) : @Wq D (gApp1 h g S) p = @Wq Vl (g S) ⟨fun x S1 => @Wq D (match h x.d with | some d => .ok d S1 | none => .stuck) p, p.er⟩ := by
  unfold gApp1
  rw [q_bind] <;> refine po_congr fun x S1 => ?_ <;> first | rfl | (rw [q_if] <;> rfl) | (rw [q_bind] <;> first | rfl | (refine po_congr fun y S2 => ?_ <;> first | rfl | (rw [q_bind] <;> rfl)))
theorem q_gNew1 (h : D → Option (List D)) (g : Sl → R Vl) {S : Sl} (p : Po Vl) : @Wq Vl (gNew1 h g S) p = @Wq Vl (g S) ⟨fun x S1 => @Wq Vl (if x.lev then (match h x.d with | some ds => .ok ⟨false, 1, .lst ds⟩ S1 | none => .stuck) else .stuck) p, p.er⟩ := by
  unfold gNew1
  rw [q_bind] <;> refine po_congr fun x S1 => ?_ <;> first | rfl | (rw [q_if] <;> rfl) | (rw [q_bind] <;> first | rfl | (refine po_congr fun y S2 => ?_ <;> first | rfl | (rw [q_bind] <;> rfl)))
theorem q_gOpV (q : Bool) (h : D → D → Option D) (ga gb : Sl → R Vl) {S : Sl} (p : Po D) : @Wq D (gOpV q h ga gb S) p = @Wq Vl (ga S) ⟨fun x S1 => @Wq Vl (gb S1) ⟨fun y S2 => @Wq D (if x.b && !q then .stuck else match h x.d y.d with | some d => .ok d S2 | none => .stuck) p, p.er⟩, p.er⟩ := by
  unfold gOpV
  rw [q_bind] <;> refine po_congr fun x S1 => ?_ <;> first | rfl | (rw [q_if] <;> rfl) | (rw [q_bind] <;> first | rfl | (refine po_congr fun y S2 => ?_ <;> first | rfl | (rw [q_bind] <;> rfl)))
theorem q_gIx (q : Bool) (ga : Sl → R Vl) (gb : Sl → R D) {S : Sl} (p : Po Vl) : @Wq Vl (gIx q ga gb S) p = @Wq Vl (ga S) ⟨fun x S1 => @Wq D (gb S1) ⟨fun i S2 => @Wq Vl (if x.b && !q then .stuck else match ixV x i with | some y => .ok y S2 | none => .stuck) p, p.er⟩, p.er⟩ := by
  unfold gIx
  rw [q_bind] <;> refine po_congr fun x S1 => ?_ <;> first | rfl | (rw [q_if] <;> rfl) | (rw [q_bind] <;> first | rfl | (refine po_congr fun y S2 => ?_ <;> first | rfl | (rw [q_bind] <;> rfl)))
theorem q_gPart_n {S : Sl} (p : Po (Option Int)) : @Wq (Option Int) (gPart none S) p = p.ok none S := rfl
theorem q_gPart_s (g : Sl → R D) {S : Sl} (p : Po (Option Int)) : @Wq (Option Int) (gPart (some g) S) p = @Wq D (g S) ⟨fun d S1 => @Wq (Option Int) (match d with | .int i => .ok (some i) S1 | _ => .stuck) p, p.er⟩ := by
  simp only [gPart, q_bind]
theorem q_gSl (q : Bool) (ga : Sl → R Vl) (lo hi : Option (Sl → R D)) {S : Sl} (p : Po Vl) : @Wq Vl (gSl q ga lo hi S) p = @Wq Vl (ga S) ⟨fun x S1 => @Wq (Option Int) (gPart lo S1) ⟨fun l S2 => @Wq (Option Int) (gPart hi S2) ⟨fun h S3 => @Wq Vl (if x.b && !q then .stuck else match slV x l h with | some y => .ok y S3 | none => .stuck) p, p.er⟩, p.er⟩, p.er⟩ := by
  unfold gSl
  rw [q_bind] <;> refine po_congr fun x S1 => ?_ <;> first | rfl | (rw [q_if] <;> rfl) | (rw [q_bind] <;> first | rfl | (refine po_congr fun y S2 => ?_ <;> first | rfl | (rw [q_bind] <;> rfl)))
theorem q_gNew2 (q : Bool) (h : D → D → Option (List D)) (ga gb : Sl → R Vl) {S : Sl} (p : Po Vl) : @Wq Vl (gNew2 q h ga gb S) p = @Wq Vl (ga S) ⟨fun x S1 => @Wq Vl (gb S1) ⟨fun y S2 => @Wq Vl (if x.b && !q then .stuck else if x.lev && y.lev then (match h x.d y.d with | some ds => .ok ⟨false, 1, .lst ds⟩ S2 | none => .stuck) else .stuck) p, p.er⟩, p.er⟩ := by
  unfold gNew2
  rw [q_bind] <;> refine po_congr fun x S1 => ?_ <;> first | rfl | (rw [q_if] <;> rfl) | (rw [q_bind] <;> first | rfl | (refine po_congr fun y S2 => ?_ <;> first | rfl | (rw [q_bind] <;> rfl)))
theorem q_gCatT (ga gb : Sl → R D) {S : Sl} (p : Po D) : @Wq D (gCatT ga gb S) p = @Wq D (ga S) ⟨fun x S1 => @Wq D (gb S1) ⟨fun y S2 => @Wq D (match x, y with
  | .tup xs, .tup ys => if lineOk (xs ++ ys) then .ok (.tup (xs ++ ys)) S2 else .stuck
  | _, _ => .stuck) p, p.er⟩, p.er⟩ := by
  unfold gCatT
  rw [q_bind] <;> refine po_congr fun x S1 => ?_ <;> first | rfl | (rw [q_if] <;> rfl) | (rw [q_bind] <;> first | rfl | (refine po_congr fun y S2 => ?_ <;> first | rfl | (rw [q_bind] <;> rfl)))
theorem q_gTupOf (g : Sl → R Vl) {S : Sl} (p : Po D) : @Wq D (gTupOf g S) p = @Wq Vl (g S) ⟨fun x S1 => @Wq D (match x.d with
  | .lst ds => if x.lev then .ok (.tup ds) S1 else .stuck
  | .tup ds => .ok (.tup ds) S1
  | _ => .stuck) p, p.er⟩ := by
  unfold gTupOf
  rw [q_bind] <;> refine po_congr fun x S1 => ?_ <;> first | rfl | (rw [q_if] <;> rfl) | (rw [q_bind] <;> first | rfl | (refine po_congr fun y S2 => ?_ <;> first | rfl | (rw [q_bind] <;> rfl)))
theorem q_gSeq (b : Bool) (g : Sl → R Vl) {S : Sl} (p : Po (List D)) : @Wq (List D) (gSeq b g S) p = @Wq Vl (g S) ⟨fun x S1 => @Wq (List D) (if b || !x.b then (match itemsV x with | some ds => .ok ds S1 | none => .stuck) else .stuck) p, p.er⟩ := by
  unfold gSeq
  rw [q_bind] <;> refine po_congr fun x S1 => ?_ <;> first | rfl | (rw [q_if] <;> rfl) | (rw [q_bind] <;> first | rfl | (refine po_congr fun y S2 => ?_ <;> first | rfl | (rw [q_bind] <;> rfl)))
theorem q_gAnd (a b : Sl → R Bool) {S : Sl} (p : Po Bool) : @Wq Bool (gAnd a b S) p = @Wq Bool (a S) ⟨fun x S1 => if x = true then @Wq Bool (b S1) p else p.ok false S1, p.er⟩ := by
  unfold gAnd
  rw [q_bind] <;> refine po_congr fun x S1 => ?_ <;> first | rfl | (rw [q_if] <;> rfl) | (rw [q_bind] <;> first | rfl | (refine po_congr fun y S2 => ?_ <;> first | rfl | (rw [q_bind] <;> rfl)))
theorem q_gOr (a b : Sl → R Bool) {S : Sl} (p : Po Bool) : @Wq Bool (gOr a b S) p = @Wq Bool (a S) ⟨fun x S1 => if x = true then p.ok true S1 else @Wq Bool (b S1) p, p.er⟩ := by
  unfold gOr
  rw [q_bind] <;> refine po_congr fun x S1 => ?_ <;> first | rfl | (rw [q_if] <;> rfl) | (rw [q_bind] <;> first | rfl | (refine po_congr fun y S2 => ?_ <;> first | rfl | (rw [q_bind] <;> rfl)))
theorem q_gNot (a : Sl → R Bool) {S : Sl} (p : Po Bool) : @Wq Bool (gNot a S) p = @Wq Bool (a S) ⟨fun x S1 => p.ok (!x) S1, p.er⟩ := by
  unfold gNot
  rw [q_bind] <;> refine po_congr fun x S1 => ?_ <;> first | rfl | (rw [q_if] <;> rfl) | (rw [q_bind] <;> first | rfl | (refine po_congr fun y S2 => ?_ <;> first | rfl | (rw [q_bind] <;> rfl)))
theorem q_gAndV (a b : Sl → R D) {S : Sl} (p : Po D) : @Wq D (gAndV a b S) p = @Wq D (a S) ⟨fun x S1 => @Wq D (match x with | .bl true => b S1 | .bl false => .ok (.bl false) S1 | _ => .stuck) p, p.er⟩ := by
  unfold gAndV
  rw [q_bind] <;> refine po_congr fun x S1 => ?_ <;> first | rfl | (rw [q_if] <;> rfl) | (rw [q_bind] <;> first | rfl | (refine po_congr fun y S2 => ?_ <;> first | rfl | (rw [q_bind] <;> rfl)))
theorem q_gOrV (a b : Sl → R D) {S : Sl} (p : Po D) : @Wq D (gOrV a b S) p = @Wq D (a S) ⟨fun x S1 => @Wq D (match x with | .bl true => .ok (.bl true) S1 | .bl false => b S1 | _ => .stuck) p, p.er⟩ := by
  unfold gOrV
  rw [q_bind] <;> refine po_congr fun x S1 => ?_ <;> first | rfl | (rw [q_if] <;> rfl) | (rw [q_bind] <;> first | rfl | (refine po_congr fun y S2 => ?_ <;> first | rfl | (rw [q_bind] <;> rfl)))
theorem q_gNotV (a : Sl → R D) {S : Sl} (p : Po D) : @Wq D (gNotV a S) p = @Wq D (a S) ⟨fun x S1 => @Wq D (match x with | .bl b => .ok (.bl (!b)) S1 | _ => .stuck) p, p.er⟩ := by
  unfold gNotV
  rw [q_bind] <;> refine po_congr fun x S1 => ?_ <;> first | rfl | (rw [q_if] <;> rfl) | (rw [q_bind] <;> first | rfl | (refine po_congr fun y S2 => ?_ <;> first | rfl | (rw [q_bind] <;> rfl)))
theorem q_gIfE {α : Type} (c : Sl → R Bool) (a b : Sl → R α) {S : Sl} (p : Po α) : @Wq α (gIfE c a b S) p = @Wq Bool (c S) ⟨fun x S1 => if x = true then @Wq α (a S1) p else @Wq α (b S1) p, p.er⟩ := by
  unfold gIfE
  rw [q_bind] <;> refine po_congr fun x S1 => ?_ <;> rw [q_if]
theorem q_gTru (g : Sl → R Vl) {S : Sl} (p : Po Bool) : @Wq Bool (gTru g S) p = @Wq Vl (g S) ⟨fun x S1 => @Wq Bool (match truD x.d with | some b => .ok b S1 | none => .stuck) p, p.er⟩ := by
  unfold gTru
  rw [q_bind] <;> refine po_congr fun x S1 => ?_ <;> first | rfl | (rw [q_if] <;> rfl) | (rw [q_bind] <;> first | rfl | (refine po_congr fun y S2 => ?_ <;> first | rfl | (rw [q_bind] <;> rfl)))
theorem q_gThen (a b : Sl → R Out) {S : Sl} (p : Po Out) : @Wq Out (gThen a b S) p = @Wq Out (a S) ⟨fun o S1 => match o with | .nx => @Wq Out (b S1) p | .ct => p.ok .ct S1 | .bk => p.ok .bk S1 | .rt x => p.ok (.rt x) S1, p.er⟩ := by
  simp only [gThen, q_bind]; congr; funext o S1; cases o <;> rfl
theorem q_gDrop (g : Sl → R Vl) {S : Sl} (p : Po Out) : @Wq Out (gDrop g S) p = @Wq Vl (g S) ⟨fun _ S1 => p.ok .nx S1, p.er⟩ := by
  unfold gDrop
  rw [q_bind] <;> refine po_congr fun x S1 => ?_ <;> first | rfl | (rw [q_if] <;> rfl) | (rw [q_bind] <;> first | rfl | (refine po_congr fun y S2 => ?_ <;> first | rfl | (rw [q_bind] <;> rfl)))
theorem q_gRet (g : Sl → R Vl) {S : Sl} (p : Po Out) : @Wq Out (gRet g S) p = @Wq Vl (g S) ⟨fun x S1 => @Wq Out (if x.b then .stuck else .ok (.rt x) S1) p, p.er⟩ := by
  unfold gRet
  rw [q_bind] <;> refine po_congr fun x S1 => ?_ <;> first | rfl | (rw [q_if] <;> rfl) | (rw [q_bind] <;> first | rfl | (refine po_congr fun y S2 => ?_ <;> first | rfl | (rw [q_bind] <;> rfl)))
theorem q_gIfS (c : Sl → R Bool) (a b : Sl → R Out) {S : Sl} (p : Po Out) : @Wq Out (gIfS c a b S) p = @Wq Bool (c S) ⟨fun x S1 => if x = true then @Wq Out (a S1) p else @Wq Out (b S1) p, p.er⟩ := by
  unfold gIfS
  rw [q_bind] <;> refine po_congr fun x S1 => ?_ <;> rw [q_if]
theorem q_gSet (i : Nat) (g : Sl → R Vl) {S : Sl} (p : Po Out) : @Wq Out (gSet i g S) p = @Wq Vl (g S) ⟨fun x S1 => @Wq Out (if x.b then .stuck else match S1[i]? with
  | some ⟨false, _⟩ => .ok .nx (S1.put i (some (x.k, x.d)))
  | _ => .stuck) p, p.er⟩ := by
  unfold gSet
  rw [q_bind] <;> refine po_congr fun x S1 => ?_ <;> first | rfl | (rw [q_if] <;> rfl) | (rw [q_bind] <;> first | rfl | (refine po_congr fun y S2 => ?_ <;> first | rfl | (rw [q_bind] <;> rfl)))
theorem q_gAsg (ga : D → Sl → Option Sl) (g : Sl → R D) {S : Sl} (p : Po Out) : @Wq Out (gAsg ga g S) p = @Wq D (g S) ⟨fun d S1 => @Wq Out (match ga d S1 with
  | some S2 => .ok .nx S2
  | none => .stuck) p, p.er⟩ := by
  unfold gAsg
  rw [q_bind] <;> refine po_congr fun x S1 => ?_ <;> first | rfl | (rw [q_if] <;> rfl) | (rw [q_bind] <;> first | rfl | (refine po_congr fun y S2 => ?_ <;> first | rfl | (rw [q_bind] <;> rfl)))
theorem q_gFor (gi : Sl → R (List D)) (ga : D → Sl → Option Sl) (gb : Sl → R Out) {S : Sl} (p : Po Out) : @Wq Out (gFor gi ga gb S) p = @Wq (List D) (gi S) ⟨fun xs S1 => @Wq Out (loopFor ga gb xs S1) p, p.er⟩ := by
  unfold gFor
  rw [q_bind] <;> refine po_congr fun x S1 => ?_ <;> first | rfl | (rw [q_if] <;> rfl) | (rw [q_bind] <;> first | rfl | (refine po_congr fun y S2 => ?_ <;> first | rfl | (rw [q_bind] <;> rfl)))
theorem q_gArV (g : Sl → R D) (r : Sl → R (List Ar)) {S : Sl} (p : Po (List Ar)) : @Wq (List Ar) (gArV g r S) p = @Wq D (g S) ⟨fun d S1 => @Wq (List Ar) (r S1) ⟨fun as S2 => p.ok (.v d :: as) S2, p.er⟩, p.er⟩ := by
  unfold gArV
  rw [q_bind] <;> refine po_congr fun x S1 => ?_ <;> first | rfl | (rw [q_if] <;> rfl) | (rw [q_bind] <;> first | rfl | (refine po_congr fun y S2 => ?_ <;> first | rfl | (rw [q_bind] <;> rfl)))
theorem q_gCall (f : Sl → R Vl) (ga : Sl → R (List Ar)) {S : Sl} (p : Po Vl) : @Wq Vl (gCall f ga S) p = @Wq (List Ar) (ga S) ⟨fun as S1 => if okIo as = true then (match argSl as S1 with
  | none => False
  | some T => @Wq Vl (f T) ⟨fun x T' => p.ok x (backSl as T' S1), fun c w T' => p.er c w (backSl as T' S1)⟩) else False, p.er⟩ := by
  simp only [gCall, q_bind]; congr; funext as S1
  by_cases h : okIo as = true
  · simp only [h, if_true]
    cases argSl as S1 with
    | none => rfl
    | some T => simp only []; cases f T <;> rfl
  · simp only [h]; rfl
theorem q_gCallP (f : Sl → R Vl) (ga : Sl → R (List Ar)) {S : Sl} (p : Po Vl) : @Wq Vl (gCallP f ga S) p = @Wq (List Ar) (ga S) ⟨fun as S1 => if allV as = true then (match argSl as S1 with
  | none => False
  | some T => @Wq Vl (f T) ⟨fun x _ => p.ok x S1, fun c w _ => p.er c w S1⟩) else False, p.er⟩ := by
  simp only [gCallP, q_bind]; congr; funext as S1
  by_cases h : allV as = true
  · simp only [h, if_true]
    cases argSl as S1 with
    | none => rfl
    | some T => simp only []; cases f T <;> rfl
  · simp only [h]; rfl
theorem q_gLenSet (g : Sl → R Vl) {S : Sl} (p : Po D) : @Wq D (gLenSet g S) p = @Wq Vl (g S) ⟨fun x S1 => @Wq D (if x.lev then (match dLenSet x.d with | some d => .ok d S1 | none => .stuck) else .stuck) p, p.er⟩ := by
  unfold gLenSet
  rw [q_bind] <;> refine po_congr fun x S1 => ?_ <;> first | rfl | (rw [q_if] <;> rfl) | (rw [q_bind] <;> first | rfl | (refine po_congr fun y S2 => ?_ <;> first | rfl | (rw [q_bind] <;> rfl)))
theorem q_gRaise (C : Addr) (g : Sl → R D) {S : Sl} (p : Po Out) : @Wq Out (gRaise C g S) p = @Wq D (g S) ⟨fun d S1 => @Wq Out (match d with
  | .str z => if z.length ≤ 1000 then .err C (some ("what", .str z)) S1 else .stuck
  | _ => .stuck) p, p.er⟩ := by
  unfold gRaise
  rw [q_bind] <;> refine po_congr fun x S1 => ?_ <;> first | rfl | (rw [q_if] <;> rfl) | (rw [q_bind] <;> first | rfl | (refine po_congr fun y S2 => ?_ <;> first | rfl | (rw [q_bind] <;> rfl)))
theorem q_gIt (h : List D → Option (List D)) (ga : Sl → R (List D)) {S : Sl} (p : Po (List D)) : @Wq (List D) (gIt h ga S) p = @Wq (List D) (ga S) ⟨fun ds S1 => @Wq (List D) (match h ds with | some xs => .ok xs S1 | none => .stuck) p, p.er⟩ := by
  unfold gIt
  rw [q_bind] <;> refine po_congr fun x S1 => ?_ <;> first | rfl | (rw [q_if] <;> rfl) | (rw [q_bind] <;> first | rfl | (refine po_congr fun y S2 => ?_ <;> first | rfl | (rw [q_bind] <;> rfl)))
theorem q_gEnum (b : Bool) (g : Sl → R Vl) {S : Sl} (p : Po (List D)) : @Wq (List D) (gEnum b g S) p = @Wq Vl (g S) ⟨fun x S1 => @Wq (List D) (match listV b x with | some ds => .ok (enumD ds) S1 | none => .stuck) p, p.er⟩ := by
  unfold gEnum
  rw [q_bind] <;> refine po_congr fun x S1 => ?_ <;> first | rfl | (rw [q_if] <;> rfl) | (rw [q_bind] <;> first | rfl | (refine po_congr fun y S2 => ?_ <;> first | rfl | (rw [q_bind] <;> rfl)))
theorem q_gLRange (g : Sl → R D) {S : Sl} (p : Po Vl) : @Wq Vl (gLRange g S) p = @Wq D (g S) ⟨fun d S1 => @Wq Vl (match dLRange [d] with | some xs => .ok ⟨false, 1, .lst xs⟩ S1 | none => .stuck) p, p.er⟩ := by
  unfold gLRange
  rw [q_bind] <;> refine po_congr fun x S1 => ?_ <;> first | rfl | (rw [q_if] <;> rfl) | (rw [q_bind] <;> first | rfl | (refine po_congr fun y S2 => ?_ <;> first | rfl | (rw [q_bind] <;> rfl)))
theorem q_gArIo (i : Nat) (r : Sl → R (List Ar)) {S : Sl} (p : Po (List Ar)) : @Wq (List Ar) (gArIo i r S) p = match S[i]? with
  | some ⟨_, some _⟩ => @Wq (List Ar) (r S) ⟨fun as S2 => p.ok (.io i :: as) S2, p.er⟩
  | _ => False := by
  unfold gArIo
  rcases S[i]? with _ | ⟨pin, _ | ⟨_ | k, e⟩⟩ <;> first | rfl | (simp only [q_bind]; done) | (simp only [q_bind]; rfl) | (cases e <;> first | rfl | (simp only [q_bind]; done) | (simp only [q_bind]; rfl))
theorem q_gIxN (i : Nat) (gb : Sl → R D) {S : Sl} (p : Po Vl) : @Wq Vl (gIxN i gb S) p = match S[i]? with
  | some ⟨_, some _⟩ => @Wq D (gb S) ⟨fun j S2 => @Wq Vl (match S2[i]? with
    | some ⟨_, some (k, d)⟩ => (match ixV ⟨true, k, d⟩ j with | some y => .ok y S2 | none => .stuck)
    | _ => .stuck) p, p.er⟩
  | _ => False := by
  unfold gIxN
  rcases S[i]? with _ | ⟨pin, _ | ⟨_ | k, e⟩⟩ <;> first | rfl | (simp only [q_bind]; done) | (simp only [q_bind]; rfl) | (cases e <;> first | rfl | (simp only [q_bind]; done) | (simp only [q_bind]; rfl))
theorem q_gApd (i : Nat) (g : Sl → R Vl) {S : Sl} (p : Po D) : @Wq D (gApd i g S) p = match S[i]? with
  | some ⟨_, some (_ + 1, .lst _)⟩ => @Wq Vl (g S) ⟨fun x S1 => @Wq D (if x.b then .stuck else (match S1[i]? with
    | some ⟨_, some (k + 1, .lst xs)⟩ => if decide (xs.length < 16777216) && (x.k == k || k == 0 || x.d.atom) then .ok .non (S1.put i (some (k + 1, .lst (xs ++ [x.d])))) else .stuck
    | _ => .stuck)) p, p.er⟩
  | _ => False := by
  unfold gApd
  rcases S[i]? with _ | ⟨pin, _ | ⟨_ | k, e⟩⟩ <;> first | rfl | (simp only [q_bind]; done) | (simp only [q_bind]; rfl) | (cases e <;> first | rfl | (simp only [q_bind]; done) | (simp only [q_bind]; rfl))
theorem q_gPopAt (i : Nat) (g : Sl → R D) {S : Sl} (p : Po Vl) : @Wq Vl (gPopAt i g S) p = match S[i]? with
  | some ⟨_, some (_ + 1, .lst _)⟩ => @Wq D (g S) ⟨fun y S1 => @Wq Vl (match S1[i]?, y with
    | some ⟨_, some (k + 1, .lst xs)⟩, .int n => if decide (-(2 ^ 63) ≤ n ∧ n < 2 ^ 63) then (match seqIndex? n xs.length with
      | some j => (match xs[j]? with
        | some d => .ok ⟨false, k, d⟩ (S1.put i (some (k + 1, .lst (xs.eraseIdx j))))
        | none => .stuck)
      | none => .stuck) else .stuck
    | _, _ => .stuck) p, p.er⟩
  | _ => False := by
  unfold gPopAt
  rcases S[i]? with _ | ⟨pin, _ | ⟨_ | k, e⟩⟩ <;> first | rfl | (simp only [q_bind]; done) | (simp only [q_bind]; rfl) | (cases e <;> first | rfl | (simp only [q_bind]; done) | (simp only [q_bind]; rfl))
theorem q_gSetIx (i : Nat) (gx gj : Sl → R D) {S : Sl} (p : Po Out) : @Wq Out (gSetIx i gx gj S) p = @Wq D (gx S) ⟨fun d S1 => match S1[i]? with
  | some ⟨_, some (_ + 1, .lst _)⟩ => @Wq D (gj S1) ⟨fun y S2 => @Wq Out (match S2[i]?, y with
    | some ⟨_, some (k + 1, .lst xs)⟩, .int n => if k == 0 || d.atom then (match ixN xs.length n with
      | some j => .ok .nx (S2.put i (some (k + 1, .lst (xs.set j d))))
      | none => .stuck) else .stuck
    | _, _ => .stuck) p, p.er⟩
  | _ => False, p.er⟩ := by
  unfold gSetIx
  rw [q_bind]; congr; funext d S1
  rcases S1[i]? with _ | ⟨pin, _ | ⟨_ | k, e⟩⟩ <;> first | rfl | (simp only [q_bind]; done) | (simp only [q_bind]; rfl) | (cases e <;> first | rfl | (simp only [q_bind]; done) | (simp only [q_bind]; rfl))
theorem q_gDPut (i : Nat) (gx gk : Sl → R D) {S : Sl} (p : Po Out) : @Wq Out (gDPut i gx gk S) p = @Wq D (gx S) ⟨fun d S1 => match S1[i]? with
  | some ⟨_, some (_, _)⟩ => @Wq D (gk S1) ⟨fun y S2 => @Wq Out (match S2[i]? with
    | some ⟨_, some (1, c)⟩ => (match dPut c y d with
      | some c' => .ok .nx (S2.put i (some (1, c')))
      | none => .stuck)
    | _ => .stuck) p, p.er⟩
  | _ => False, p.er⟩ := by
  unfold gDPut
  rw [q_bind]; congr; funext d S1
  rcases S1[i]? with _ | ⟨pin, _ | ⟨_ | k, e⟩⟩ <;> first | rfl | (simp only [q_bind]; done) | (simp only [q_bind]; rfl) | (cases e <;> first | rfl | (simp only [q_bind]; done) | (simp only [q_bind]; rfl))
end
end VL

set_option Elab.async false
set_option linter.all false
set_option autoImplicit false
set_option maxRecDepth 100000
namespace VL
open PySem PySem.Spec L2
open PyProof.Rows hiding St

/-! leaves -/
section
variable (S : Sl)
theorem u_gVar (i : Nat) : gVar i S = match S[i]? with
  | some ⟨_, some (0, d)⟩ => .ok d S
  | some ⟨_, some (_ + 1, d)⟩ => if d.atom then .ok d S else .stuck
  | _ => .stuck := rfl
theorem u_gC (d : D) : gC d S = .ok d S := rfl
theorem u_gNil : gNil S = .ok [] S := rfl
theorem u_gBor (i : Nat) : gBor i S = match S[i]? with
  | some ⟨_, some (k, d)⟩ => .ok ⟨true, k, d⟩ S
  | _ => .stuck := rfl
theorem u_gMov (i : Nat) : gMov i S = match S[i]? with
  | some ⟨_, some (k, d)⟩ => .ok ⟨false, k, d⟩ (S.put i none)
  | _ => .stuck := rfl
theorem u_gFrz (i : Nat) : gFrz i S = match S[i]? with
  | some ⟨_, some (_, d)⟩ => .ok d (S.put i (some (0, d)))
  | _ => .stuck := rfl
theorem u_gYes : gYes S = .ok true S := rfl
theorem u_gNext : gNext S = .ok .nx S := rfl
theorem u_gBreak : gBreak S = .ok .bk S := rfl
theorem u_gCont : gCont S = .ok .ct S := rfl
theorem u_gRetN : gRetN S = .ok (.rt ⟨false, 0, .non⟩) S := rfl
theorem u_gArN : gArN S = .ok [] S := rfl
theorem u_gPop (i : Nat) : gPop i S = match S[i]? with
  | some ⟨_, some (k + 1, .lst xs)⟩ => (match xs[xs.length - 1]? with
    | some d => .ok ⟨false, k, d⟩ (S.put i (some (k + 1, .lst xs.dropLast)))
    | none => .stuck)
  | _ => .stuck := rfl
theorem u_gDnewK : gDnewK S = .ok ⟨false, 1, .dK [] []⟩ S := rfl
theorem u_gDnewT : gDnewT S = .ok ⟨false, 1, .dT [] []⟩ S := rfl
theorem u_gListKeys (i : Nat) : gListKeys i S = match S[i]? with
  | some ⟨_, some (1, .dT ks _)⟩ => .ok ⟨false, 1, .lst (ks.map fun k => D.tup (k.map kD))⟩ S
  | _ => .stuck := rfl
theorem u_gRev (i : Nat) : gRev i S = match S[i]? with
  | some ⟨_, some (1, .lst xs)⟩ => .ok .non (S.put i (some (1, .lst xs.reverse)))
  | _ => .stuck := rfl
theorem u_gaName (i : Nat) (d : D) : gaName i d S = match S[i]? with
  | some ⟨false, _⟩ => some (S.put i (some (0, d)))
  | _ => none := rfl
theorem u_gaNil (ds : List D) : gaNil ds S = match ds with
  | [] => some S
  | _ => none := rfl
theorem u_gaCons (a : D → Sl → Option Sl) (b : List D → Sl → Option Sl) (ds : List D) : gaCons a b ds S = match ds with
  | d :: r => (match a d S with
    | some S1 => b r S1
    | none => none)
  | [] => none := rfl
theorem u_gaTup (n : Nat) (ga : List D → Sl → Option Sl) (d : D) : gaTup n ga d S = match d with
  | .tup ds => if ds.length = n then ga ds S else none
  | _ => none := rfl
end
theorem lev_0 (b : Bool) (d : D) : Vl.lev ⟨b, 0, d⟩ = true := rfl
theorem lev_1 (b : Bool) (d : D) : Vl.lev ⟨b, 1, d⟩ = true := rfl
theorem keep_0 (S : Sl) : keepN 0 S = [] := rfl
theorem keep_f (n : Nat) (v : Option (Nat × D)) (S : Sl) : keepN (n + 1) (⟨false, v⟩ :: S) = ⟨false, none⟩ :: keepN n S := rfl
theorem keep_t (n : Nat) (v : Option (Nat × D)) (S : Sl) : keepN (n + 1) (⟨true, v⟩ :: S) = ⟨true, v⟩ :: keepN n S := rfl
theorem arg_n (S : Sl) : argSl [] S = some [] := rfl
theorem arg_v (d : D) (as : List Ar) (S : Sl) : argSl (.v d :: as) S = match argSl as S with | some T => some (⟨false, some (0, d)⟩ :: T) | none => none := by
  show (argSl as S).map _ = _
  cases argSl as S <;> rfl
theorem arg_io (i : Nat) (as : List Ar) (S : Sl) : argSl (.io i :: as) S = match S[i]? with
  | some ⟨_, some kd⟩ => (match argSl as S with | some T => some (⟨true, some kd⟩ :: T) | none => none)
  | _ => none := by
  simp only [argSl]
  cases argSl as S <;> rcases S[i]? with _ | ⟨_, _ | kd⟩ <;> rfl
theorem allV_n : allV [] = true := rfl
theorem allV_v (d : D) (as : List Ar) : allV (.v d :: as) = allV as := rfl
theorem okIo_n : okIo [] = true := rfl
theorem okIo_v (d : D) (as : List Ar) : okIo (.v d :: as) = okIo as := rfl
theorem okIo_i (i : Nat) (as : List Ar) : okIo (.io i :: as) = ((idxIo as i).isNone && okIo as) := rfl
theorem idxIo_n (j : Nat) : idxIo [] j = none := rfl
theorem idxIo_v (d : D) (as : List Ar) (j : Nat) : idxIo (.v d :: as) j = (idxIo as j).map (· + 1) := rfl
theorem idxIo_i (i : Nat) (as : List Ar) (j : Nat) : idxIo (.io i :: as) j = if i = j then some 0 else (idxIo as j).map (· + 1) := rfl
theorem loop_n (ga : D → Sl → Option Sl) (gb : Sl → R Out) (S : Sl) : loopFor ga gb [] S = .ok .nx S := rfl
theorem q_loop_c (ga : D → Sl → Option Sl) (gb : Sl → R Out) (d : D) (ds : List D) (S : Sl) (p : Po Out) : @Wq Out (loopFor ga gb (d :: ds) S) p = match ga d S with
  | none => False
  | some S1 => @Wq Out (gb S1) ⟨fun o S2 => match o with
    | .nx => @Wq Out (loopFor ga gb ds S2) p
    | .ct => @Wq Out (loopFor ga gb ds S2) p
    | .bk => p.ok .nx S2
    | .rt x => p.ok (.rt x) S2, p.er⟩ := by
  simp only [loopFor]
  cases ga d S with
  | none => rfl
  | some S1 =>
    simp only []
    rw [q_bind]
    refine po_congr fun o S2 => ?_
    cases o <;> rfl
/-- the body of a def -/
theorem q_fn {n m : Nat} {gb : Sl → R Out} {T : Sl} (p : Po Vl) : @Wq Vl (fnSem n m gb T) p = @Wq Out (gb (T ++ List.replicate m ⟨false, none⟩)) ⟨fun o S' => match o with
      | .rt x => n ≤ S'.length ∧ p.ok x (keepN n S')
      | .nx => n ≤ S'.length ∧ p.ok ⟨false, 0, .non⟩ (keepN n S')
      | _ => False, fun c w S' => n ≤ S'.length ∧ p.er c w (keepN n S')⟩ := by
  unfold fnSem
  cases hg : gb (T ++ List.replicate m ⟨false, none⟩) with
  | stuck => rfl
  | ok o S' =>
    cases o with
    | rt x => by_cases h : n ≤ S'.length <;> simp [h, Wq, R.wp]
    | nx => by_cases h : n ≤ S'.length <;> simp [h, Wq, R.wp]
    | bk => simp [Wq, R.wp]
    | ct => simp [Wq, R.wp]
  | err c w S' => by_cases h : n ≤ S'.length <;> simp [h, Wq, R.wp]
/-! loops -/
theorem q_loop {α : Type} (c : α → D) (I : List α → Sl → Prop) {ga : D → Sl → Option Sl} {gb : Sl → R Out} {p : Po Out} :
    ∀ {L pre : List α} {S : Sl}, I pre S → (∀ q a r S, pre ++ L = q ++ a :: r → I q S → match ga (c a) S with
      | none => False
      | some S1 => @Wq Out (gb S1) ⟨fun o S2 => match o with
        | .nx => I (q ++ [a]) S2
        | .ct => I (q ++ [a]) S2
        | .bk => p.ok .nx S2
        | .rt x => p.ok (.rt x) S2, p.er⟩) → (∀ S, I (pre ++ L) S → p.ok .nx S) → @Wq Out (loopFor ga gb (L.map c) S) p
  | [], pre, S, h0, hs, hf => by
    show p.ok .nx S
    exact hf S (by simpa using h0)
  | a :: L, pre, S, h0, hs, hf => by
    have h1 := hs pre a L S rfl h0
    rw [List.map_cons, q_loop_c]
    cases hg : ga (c a) S with
    | none => rw [hg] at h1; exact h1.elim
    | some S1 =>
      rw [hg] at h1
      refine q_mono h1 (fun o S2 h2 => ?_) (fun c w s h => h)
      have rec' : ∀ S2, I (pre ++ [a]) S2 → @Wq Out (loopFor ga gb (L.map c) S2) p := fun S2 h2 =>
        q_loop c I (L := L) (pre := pre ++ [a]) h2 (fun p b q S' he hi => hs p b q S' (by simpa using he) hi) (fun S' hi => hf S' (by simpa using hi))
      cases o with
      | nx => exact rec' S2 h2
      | ct => exact rec' S2 h2
      | bk => exact h2
      | rt x => exact h2
/-- .. over the first numbers -/
theorem q_loopN (c : Nat → D) (I : Nat → Sl → Prop) {ga : D → Sl → Option Sl} {gb : Sl → R Out} {p : Po Out} {n : Nat} {S : Sl} (h0 : I 0 S)
    (hs : ∀ k S, k < n → I k S → match ga (c k) S with
      | none => False
      | some S1 => @Wq Out (gb S1) ⟨fun o S2 => match o with
        | .nx => I (k + 1) S2
        | .ct => I (k + 1) S2
        | .bk => p.ok .nx S2
        | .rt x => p.ok (.rt x) S2, p.er⟩) (hf : ∀ S, I n S → p.ok .nx S) : @Wq Out (loopFor ga gb ((List.range n).map c) S) p := by
  refine q_loop c (fun q S => q = List.range q.length ∧ I q.length S) (pre := []) ⟨rfl, h0⟩ (fun q a r S he hi => ?_) (fun S hi => hf S (by simpa using hi.2))
  simp only [List.nil_append] at he
  have h2 := congrArg List.length he
  simp at h2
  have h1 : a = q.length := by
    have := congrArg (fun l => l[q.length]?) he
    simp [List.getElem?_append] at this
    rw [List.getElem?_range (by omega)] at this
    exact (Option.some.inj this).symm
  have h3 := hs q.length S (by omega) hi.2
  subst h1
  cases hg : ga (c q.length) S with
  | none => rw [hg] at h3; exact h3.elim
  | some S1 =>
    rw [hg] at h3
    refine q_mono h3 (fun o S2 h4 => ?_) (fun c w s h => h)
    have e : ∀ S2, I (q.length + 1) S2 → (q ++ [q.length]) = List.range (q ++ [q.length]).length ∧ I (q ++ [q.length]).length S2 := fun S2 h4 =>
      ⟨by rw [List.length_append, List.length_singleton, List.range_succ, ← hi.1], by simpa using h4⟩
    cases o with
    | nx => exact e S2 h4
    | ct => exact e S2 h4
    | bk => exact h4
    | rt x => exact h4
/-! comprehensions -/
theorem q_lc {α : Type} (c : α → D) (f : α → Bool) (e : α → D) (L : List α) {vs : List Nat} {gi : Sl → R (List D)} {ga : D → Sl → Option Sl} {gt : Sl → R Bool} {ge : Sl → R D} {S : Sl} {p : Po Vl}
    (hi : @Wq (List D) (gi S) ⟨fun xs S' => xs = L.map c ∧ S' = S, noE⟩) (hw : wipeOk vs S = true) (hl : L.length ≤ 16777216)
    (h : ∀ a ∈ L, match ga (c a) (S.wipe vs) with
      | none => False
      | some S1 => @Wq Bool (gt S1) ⟨fun b S2 => b = f a ∧ (f a = true → @Wq D (ge S2) ⟨fun d _ => d = e a, noE⟩), noE⟩)
    (hq : p.ok ⟨false, 1, .lst ((L.filter f).map e)⟩ S) : @Wq Vl (gLc true vs gi ga gt ge S) p := by
  have hi' := q_eq hi
  refine q_to (a := ⟨false, 1, .lst ((L.filter f).map e)⟩) (S := S) ?_ hq
  unfold gLc
  rw [hi']
  simp only [R.bind, hw, lineOk, List.length_map, hl, decide_true, Bool.and_self, if_true]
  rw [loopLc_map c f e fun a ha => ?_]
  · simp only [R.noerr, R.bind, restFrom_wipe]
  · have := h a ha
    cases hg : ga (c a) (S.wipe vs) with
    | none => rw [hg] at this; exact this.elim
    | some S1 =>
      rw [hg] at this
      simp only [] at this
      refine ⟨S1, hg, ?_⟩
      cases ht : gt S1 with
      | stuck => rw [ht] at this; exact this.elim
      | err => rw [ht] at this; exact this.elim
      | ok b S2 =>
        rw [ht] at this
        obtain ⟨rfl, h2⟩ := this
        cases hp : f a with
        | false => rw [if_neg (by simp)]; exact ⟨S2, rfl⟩
        | true =>
          have h3 := h2 hp
          cases hge : ge S2 with
          | stuck => rw [hge] at h3; exact h3.elim
          | err => rw [hge] at h3; exact h3.elim
          | ok d S3 =>
            rw [hge] at h3
            have h4 : d = e a := h3
            subst h4
            exact ⟨S2, S3, rfl, hge⟩
theorem rangeD_0 (n : Nat) : rangeD 0 n = (List.range n).map fun i : Nat => D.int (i : Nat) := by
  unfold rangeD
  exact List.map_congr_left fun i _ => by rw [Int.zero_add]
theorem range1_int {n : Int} (h : n ≤ 1000000) (h0 : -1000000 ≤ n) : dRange1 [.int n] = some ((List.range n.toNat).map fun i : Nat => D.int (i : Nat)) := by
  simp only [dRange1]
  rw [if_pos ⟨by omega, by omega⟩, rangeD_0]
theorem range1_nat {n : Nat} (h : n ≤ 1000000) : dRange1 [.int (n : Nat)] = some ((List.range n).map fun i : Nat => D.int (i : Nat)) := range1_int (n := (n : Int)) (by omega) (by omega)
theorem range2_int {m n : Int} (h : n ≤ 1000000) (h0 : -1000000 ≤ n) (h2 : m ≤ 1000000) (h3 : -1000000 ≤ m) : dRange2 [.int m, .int n] = some ((List.range (n - m).toNat).map fun i : Nat => D.int (m + (i : Nat))) := by
  simp only [dRange2]
  rw [if_pos ⟨by omega, by omega, by omega, by omega⟩]; rfl
end VL

set_option Elab.async false
set_option linter.all false
set_option autoImplicit false
set_option maxRecDepth 100000
namespace VL
open PySem PySem.Spec L2
open PyProof.Rows hiding St

/-! ### any, all, max, min of one list -/
def D.bls : List D → Option (List Bool)
  | [] => some []
  | .bl b :: ds => (D.bls ds).map (b :: ·)
  | _ => none
theorem D.bls_map : ∀ {ds : List D} {bs : List Bool}, D.bls ds = some bs → ds = bs.map D.bl
  | [], bs, h => by cases h; rfl
  | .bl b :: ds, bs, h => by
    simp only [D.bls, Option.map_eq_some_iff] at h
    obtain ⟨cs, h1, rfl⟩ := h
    rw [D.bls_map h1]; rfl
  | .non :: ds, bs, h => by cases h
  | .int _ :: ds, bs, h => by cases h
  | .str _ :: ds, bs, h => by cases h
  | .ty _ :: ds, bs, h => by cases h
  | .lst _ :: ds, bs, h => by cases h
  | .tup _ :: ds, bs, h => by cases h
  | .dK _ _ :: ds, bs, h => by cases h
  | .dT _ _ :: ds, bs, h => by cases h
  | .obj _ _ _ :: ds, bs, h => by cases h
  | .exc _ _ _ _ :: ds, bs, h => by cases h
  | .kl _ _ _ :: ds, bs, h => by cases h
theorem bls_bl : ∀ bs : List Bool, D.bls (bs.map D.bl) = some bs
  | [] => rfl
  | b :: bs => by simp [D.bls, bls_bl bs]
section
variable {X : Cx} {G H : Hp}
theorem Rv.bls {bs : List Bool} {v : V} (h : Rv G H (.lst (bs.map D.bl)) v) (m : Inc G H) : ∃ a, v = .ref a ∧ H a = some (.lst (bs.map V.bl)) := by
  obtain ⟨a, vs, e, r, l, g⟩ := h.lst m
  have : vs = bs.map V.bl := by
    apply List.ext_getElem?
    intro i
    by_cases hi : i < bs.length
    · obtain ⟨u, e1, e2⟩ := g i (.bl bs[i]) (by simp [hi])
      have e3 : u = .bl bs[i] := by
        obtain ⟨k, fp, z⟩ := e2
        cases k with
        | zero => exact z.1
        | succ k => exact z.1
      rw [e1, e3]
      simp [hi]
    · rw [List.getElem?_eq_none (by rw [l, List.length_map]; omega), List.getElem?_eq_none (by rw [List.length_map]; omega)]
  subst this
  exact ⟨a, e, r⟩
def dAny : D → Option D
  | .lst ds => (D.bls ds).map fun bs => .bl (bs.any id)
  | _ => none
def dAll : D → Option D
  | .lst ds => (D.bls ds).map fun bs => .bl (bs.all id)
  | _ => none
theorem cv_any : CallV (rAny X.K) dAny := by
  intro x d hd G H v Q z m k
  cases x <;> simp only [dAny] at hd <;> first | (cases hd; done) | skip
  rename_i ds
  simp only [Option.map_eq_some_iff] at hd
  obtain ⟨ns, h1, rfl⟩ := hd
  rw [D.bls_map h1] at z
  obtain ⟨a, rfl, r⟩ := z.bls m
  exact ⟨a, ns, rfl, .of r, k _ rfl⟩
theorem cv_all : CallV (rAll X.K) dAll := by
  intro x d hd G H v Q z m k
  cases x <;> simp only [dAll] at hd <;> first | (cases hd; done) | skip
  rename_i ds
  simp only [Option.map_eq_some_iff] at hd
  obtain ⟨ns, h1, rfl⟩ := hd
  rw [D.bls_map h1] at z
  obtain ⟨a, rfl, r⟩ := z.bls m
  exact ⟨a, ns, rfl, .of r, k _ rfl⟩
def maxL : List Int → Int
  | [] => 0
  | n :: ns => ns.foldl max n
def minL : List Int → Int
  | [] => 0
  | n :: ns => ns.foldl min n
theorem foldl_max : ∀ (ns : List Int) (n m : Int), (m ∈ n :: ns) → (∀ y ∈ n :: ns, y ≤ m) → ns.foldl max n = m
  | [], n, m, h, h2 => by simp at h; exact h.symm
  | a :: ns, n, m, h, h2 => by
    simp only [List.foldl_cons]
    refine foldl_max ns (max n a) m ?_ ?_
    · have h3 := h2 n (by simp)
      have h4 := h2 a (by simp)
      rcases List.mem_cons.mp h with rfl | h
      · rw [Int.max_eq_left h4]; simp
      · rcases List.mem_cons.mp h with rfl | h
        · rw [Int.max_eq_right h3]; simp
        · exact List.mem_cons_of_mem _ h
    · intro y hy
      rcases List.mem_cons.mp hy with rfl | hy
      · have h3 := h2 n (by simp)
        have h4 := h2 a (by simp)
        omega
      · exact h2 y (by simp [hy])
theorem foldl_min : ∀ (ns : List Int) (n m : Int), (m ∈ n :: ns) → (∀ y ∈ n :: ns, m ≤ y) → ns.foldl min n = m
  | [], n, m, h, h2 => by simp at h; exact h.symm
  | a :: ns, n, m, h, h2 => by
    simp only [List.foldl_cons]
    refine foldl_min ns (min n a) m ?_ ?_
    · have h3 := h2 n (by simp)
      have h4 := h2 a (by simp)
      rcases List.mem_cons.mp h with rfl | h
      · rw [Int.min_eq_left h4]; simp
      · rcases List.mem_cons.mp h with rfl | h
        · rw [Int.min_eq_right h3]; simp
        · exact List.mem_cons_of_mem _ h
    · intro y hy
      rcases List.mem_cons.mp hy with rfl | hy
      · have h3 := h2 n (by simp)
        have h4 := h2 a (by simp)
        omega
      · exact h2 y (by simp [hy])
def dMaxL : D → Option D
  | .lst ds => match D.ints ds with
    | some (n :: ns) => some (.int (maxL (n :: ns)))
    | _ => none
  | _ => none
def dMinL : D → Option D
  | .lst ds => match D.ints ds with
    | some (n :: ns) => some (.int (minL (n :: ns)))
    | _ => none
  | _ => none
theorem cv_maxL : CallV (rMax X.K) dMaxL := by
  intro x d hd G H v Q z m k
  cases x <;> simp only [dMaxL] at hd <;> first | (cases hd; done) | skip
  rename_i ds
  split at hd
  case h_2 => cases hd
  rename_i n ns h1
  cases hd
  rw [D.ints_map h1] at z
  obtain ⟨a, rfl, r⟩ := z.ints m
  exact ⟨a, n :: ns, rfl, .of r, by simp, fun m' h1 h2 => k _ (by rw [show maxL (n :: ns) = m' from foldl_max ns n m' h1 h2]; rfl)⟩
theorem cv_minL : CallV (rMin X.K) dMinL := by
  intro x d hd G H v Q z m k
  cases x <;> simp only [dMinL] at hd <;> first | (cases hd; done) | skip
  rename_i ds
  split at hd
  case h_2 => cases hd
  rename_i n ns h1
  cases hd
  rw [D.ints_map h1] at z
  obtain ⟨a, rfl, r⟩ := z.ints m
  exact ⟨a, n :: ns, rfl, .of r, by simp, fun m' h1 h2 => k _ (by rw [show minL (n :: ns) = m' from foldl_min ns n m' h1 h2]; rfl)⟩
end

/-! ### a call of a built-in function with default= -/
/-- the least of alike data -/
def minF (d : D) (ds : List D) : D := ds.foldl (fun a y => if PySem.W.dataLt y.py a.py then y else a) d
def maxF (d : D) (ds : List D) : D := ds.foldl (fun a y => if PySem.W.dataLt a.py y.py then y else a) d
theorem minF_py : ∀ (ds : List D) (d : D), (minF d ds).py = PySem.W.minD d.py (ds.map D.py)
  | [], d => rfl
  | y :: ds, d => by
    simp only [minF, PySem.W.minD, List.foldl_cons, List.map_cons]
    have e : (if PySem.W.dataLt y.py d.py then y else d).py = if PySem.W.dataLt y.py d.py then y.py else d.py := by split <;> rfl
    have := minF_py ds (if PySem.W.dataLt y.py d.py then y else d)
    rw [e] at this
    exact this
theorem maxF_py : ∀ (ds : List D) (d : D), (maxF d ds).py = PySem.W.maxD d.py (ds.map D.py)
  | [], d => rfl
  | y :: ds, d => by
    simp only [maxF, PySem.W.maxD, List.foldl_cons, List.map_cons]
    have e : (if PySem.W.dataLt d.py y.py then y else d).py = if PySem.W.dataLt d.py y.py then y.py else d.py := by split <;> rfl
    have := maxF_py ds (if PySem.W.dataLt d.py y.py then y else d)
    rw [e] at this
    exact this
theorem py_inj_str {a b : Str} (h : (D.str a).py = (D.str b).py) : a = b := by simpa [D.py] using h
mutual
theorem D.py_inj : ∀ (a b : D), a.plain = true → b.plain = true → a.py = b.py → a = b
  | .non, b, h1, h2, e => by cases b <;> simp [D.plain, D.py] at * 
  | .bl x, b, h1, h2, e => by cases b <;> simp [D.plain, D.py] at * <;> exact e
  | .int x, b, h1, h2, e => by cases b <;> simp [D.plain, D.py] at * <;> exact e
  | .str x, b, h1, h2, e => by cases b <;> simp [D.plain, D.py] at * <;> exact e
  | .ty x, b, h1, h2, e => by simp [D.plain] at h1
  | .lst xs, b, h1, h2, e => by
    cases b <;> simp [D.plain, D.py] at h1 h2 e
    rw [D.pyL_inj xs _ h1 h2 e]
  | .tup xs, b, h1, h2, e => by
    cases b <;> simp [D.plain, D.py] at h1 h2 e
    rw [D.pyL_inj xs _ h1 h2 e]
  | .dK _ _, b, h1, h2, e => by simp [D.plain] at h1
  | .dT _ _, b, h1, h2, e => by simp [D.plain] at h1
  | .obj _ _ _, b, h1, h2, e => by simp [D.plain] at h1
  | .exc _ _ _ _, b, h1, h2, e => by simp [D.plain] at h1
  | .kl _ _ _, b, h1, h2, e => by simp [D.plain] at h1
theorem D.pyL_inj : ∀ (a b : List D), D.plainL a = true → D.plainL b = true → D.pyL a = D.pyL b → a = b
  | [], b, h1, h2, e => by cases b <;> simp [D.pyL] at * 
  | x :: a, [], h1, h2, e => by simp [D.pyL] at e
  | x :: a, y :: b, h1, h2, e => by
    simp [D.pyL, D.plainL] at h1 h2 e
    rw [D.py_inj x y h1.1 h2.1 e.1, D.pyL_inj a b h1.2 h2.2 e.2]
end
def okMin (ds : List D) : Bool := lineOk ds && D.plainL ds && (ds.all fun a => ds.all fun b => PySem.W.alike a.py b.py) && (ds.all fun d => !d.isNon) && decide (PyData.depthAll (D.pyL ds) ≤ 60)
def dMinDef : D → D → Option D
  | .lst [], y => some y
  | .lst (d :: ds), _ => if okMin (d :: ds) then some (minF d ds) else none
  | _, _ => none
def dMaxDef : D → D → Option D
  | .lst [], y => some y
  | .lst (d :: ds), _ => if okMin (d :: ds) then some (maxF d ds) else none
  | _, _ => none
section
variable {X : Cx} {W : WX} {p q : Bool} {e ea eb : Expr} {pos : Pos}
variable {σ0 σ : St} {G H G1 H1 G2 H2 : Hp} {F F1 F2 : Fps} {S S1 S2 : Sl}
/-- min(x, default=y), max(x, default=y) of frozen alike data; the answer is an item -/
def rBestDef (K : PySem.W.Frag) (f : PyData → List PyData → PyData) : List V → List V → Hp → VK → Prop := fun vs zs H Q => ∃ (a : Addr) (us : List V) (xs : List PyData) (z : V), vs = [.ref a] ∧ zs = [z] ∧ SqL K H a us ∧ DpAll K H us xs ∧ PySem.W.AlikeAll xs ∧ PyData.depthAll xs ≤ 60 ∧
  (xs = [] → Q z H) ∧ ∀ (y : PyData) (ys : List PyData) (i : Nat) (u : V), xs = y :: ys → us[i]? = some u → xs[i]? = some (f y ys) → Q u H
theorem vals_at : ∀ {us : List V} {vs : List Value}, Vals us vs → ∀ (i : Nat) (v : Value), vs[i]? = some v → ∃ u, us[i]? = some u ∧ RelV u v
  | [], [], _, i, v, h => by simp at h
  | u :: us, v :: vs, r, 0, v', h => by
    cases r with | cons r1 r2 => exact ⟨u, rfl, by simp at h; subst h; exact r1⟩
  | u :: us, v :: vs, r, i + 1, v', h => by
    cases r with | cons r1 r2 => exact vals_at r2 i v' (by simpa using h)
theorem best_run {f : PyData → List PyData → PyData} {pins : List (Addr × Obj)} {s : Shared} {H : Hp} {id : String} {ks : List Str} {vs zs : List V} {us ws : List Value} {Q : VK}
    (run : ∀ {l : Addr} {vs : Array Value} {xs : List PyData} {as : List Addr} {d : Value} {Q : Value → Shared → Prop}, s.heap.IsList l vs → ReadsAll s.heap vs.toList xs as → PySem.W.AlikeAll xs → X.A.units + 1 + PyData.depthAll xs < cLine →
      (xs = [] → ∀ h' tk, (∀ b o, s.heap.get? b = some o → h'.get? b = some o) → Q d { s with heap := h', toks := tk }) →
      (∀ (y : PyData) (ys : List PyData) (i : Nat) v h' tk bs, xs = y :: ys → vs[i]? = some v → Reads h' v (f y ys) bs → (∀ b o, s.heap.get? b = some o → h'.get? b = some o) → Q v { s with heap := h', toks := tk }) →
      wpAny (model X.prog X.w) X.A (call (.builtin id) [.ref l] (ks.zip [d])) Q X.xe s)
    (hu : X.A.units + 64 < cLine) (I : Inv X pins σ H s) (r : Vals vs us) (rz : Vals zs ws) (h : rBestDef X.K f vs zs H Q) : wpAny (model X.prog X.w) X.A (call (.builtin id) us (ks.zip ws)) (EP X pins σ Q) X.xe s := by
  obtain ⟨a, vs', xs, z, rfl, rfl, hl, hd, al, dp, q0, q1⟩ := h
  rw [Vals.ref1 r]
  obtain ⟨w1, rfl, e1⟩ := vals1 rz
  obtain ⟨its, rv, hli, hz⟩ := I.list hl
  obtain ⟨as, ra⟩ := Dp.readsAll I xs vs' its hd rv
  refine run (d := w1) hli.isList (by simpa using ra) al (by omega) (fun e h' tk hk => ⟨z, H, I.kept hk, e1, q0 e⟩) fun y ys i v h' tk bs e hv hr hk => ?_
  have hv' : its[i]? = some v := by simpa using hv
  obtain ⟨u, hu1, hu2⟩ := vals_at rv i v hv'
  obtain ⟨bs2, hr2, hlt, _, _⟩ := PySem.W.readsAll_at ra i v hv'
  have hr3 := PySem.W.reads_keeps hk hr2
  have := (Reads.unique hr3 _ _ hr).1
  refine ⟨u, H, I.kept hk, hu2, q1 y ys i u e hu1 ?_⟩
  rw [← this]
  simp [hlt]
theorem cr_minDef (hu : X.A.units + 64 < cLine) (hc : X.calm = true) : CallRK X (.builtin "min") [Str.ofString "default"] (rBestDef X.K PySem.W.minD) := by
  intro pins s σ H vs zs us ws Q I r rz h
  exact best_run (fun h1 h2 h3 h4 h5 h6 => PySem.W.min_list_default (I.ok.hd hc) h1 h2 h3 h4 h5 h6) hu I r rz h
theorem cr_maxDef (hu : X.A.units + 64 < cLine) (hc : X.calm = true) : CallRK X (.builtin "max") [Str.ofString "default"] (rBestDef X.K PySem.W.maxD) := by
  intro pins s σ H vs zs us ws Q I r rz h
  exact best_run (fun h1 h2 h3 h4 h5 h6 => PySem.W.max_list_default (I.ok.hd hc) h1 h2 h3 h4 h5 h6) hu I r rz h
def CallVD (r : List V → List V → Hp → VK → Prop) (h : D → D → Option D) : Prop := ∀ x y d, h x y = some d → ∀ G H v z Q, Rv1 G H x v → Fz G y z → Inc G H → (∀ w, Fz G d w → Q w H) → r [v] [z] H Q
theorem Dp.inc' {K : PySem.W.Frag} (m : Inc G H) {ds : List D} {vs : List V} (h : FzL G ds vs) (hp : D.plainL ds = true) : DpAll K H vs (D.pyL ds) := (h.inc m).dp ds vs hp
theorem bestDef {f : PyData → List PyData → PyData} {F' : D → List D → D} {h : D → D → Option D} (hpy : ∀ (ds : List D) (d : D), (F' d ds).py = f d.py (ds.map D.py)) (hm : ∀ d ds, F' d ds ∈ d :: ds)
    (hn : ∀ y, h (.lst []) y = some y) (hs : ∀ d ds y, h (.lst (d :: ds)) y = if okMin (d :: ds) then some (F' d ds) else none) (ho : ∀ x y, (∀ ds, x ≠ .lst ds) → h x y = none) : CallVD (rBestDef X.K f) h := by
  intro x y d hd G H v z Q zv zy m k
  by_cases hx : ∃ ds, x = .lst ds
  case neg => rw [ho x y fun ds e => hx ⟨ds, e⟩] at hd; cases hd
  obtain ⟨ds, rfl⟩ := hx
  obtain ⟨a, vs, rfl, r, q⟩ := zv.lst m
  cases ds with
  | nil =>
    rw [hn] at hd; cases hd
    have e : vs = [] := by simpa [FzL] using q
    subst e
    refine ⟨a, [], [], z, rfl, rfl, .of r, .nil, ⟨by simp, by simp⟩, by simp [PyData.depthAll], fun _ => k z zy, fun y ys i u e => by cases e⟩
  | cons d0 ds =>
    rw [hs] at hd
    split at hd
    case isFalse => cases hd
    rename_i hok
    cases hd
    simp only [okMin, Bool.and_eq_true, List.all_eq_true, decide_eq_true_eq, Bool.not_eq_true'] at hok
    obtain ⟨⟨⟨⟨h1, h2⟩, h3⟩, h4⟩, h5⟩ := hok
    have pl : ∀ x ∈ d0 :: ds, x.plain = true := fun x hx => by
      have : ∀ l : List D, D.plainL l = true → ∀ x ∈ l, x.plain = true := by
        intro l
        induction l with
        | nil => simp
        | cons a l ih =>
          intro hl x hx
          simp [D.plainL] at hl
          rcases List.mem_cons.mp hx with rfl | hx
          · exact hl.1
          · exact ih hl.2 x hx
      exact this _ h2 x hx
    refine ⟨a, vs, D.pyL (d0 :: ds), z, rfl, rfl, .of r, Dp.inc' m q h2, ⟨fun x hx y hy => ?_, fun x hx e => ?_⟩, h5, fun e => by simp [D.pyL] at e, fun y ys i u e hu he => ?_⟩
    · rw [pyL_map] at hx hy
      obtain ⟨x', m1, rfl⟩ := List.mem_map.mp hx
      obtain ⟨y', m2, rfl⟩ := List.mem_map.mp hy
      exact h3 x' m1 y' m2
    · rw [pyL_map] at hx
      obtain ⟨x', m1, rfl⟩ := List.mem_map.mp hx
      have := h4 x' m1
      have hp := pl x' m1
      cases x' <;> simp [D.py, D.isNon, D.plain] at e this hp
    · rw [pyL_map] at e he
      simp only [List.map_cons, List.cons.injEq] at e
      obtain ⟨rfl, rfl⟩ := e
      obtain ⟨di, e1, e2⟩ := q.get' hu
      have e3 : di.py = (F' d0 ds).py := by
        rw [hpy]
        have : ((d0 :: ds).map D.py)[i]? = some di.py := by rw [List.getElem?_map, e1]; rfl
        rw [this] at he
        exact Option.some.inj he
      have := D.py_inj di (F' d0 ds) (pl _ (List.mem_of_getElem? e1)) (pl _ (hm _ _)) e3
      subst this
      exact k u e2
theorem minF_mem : ∀ (ds : List D) (d : D), minF d ds ∈ d :: ds
  | [], d => by simp [minF]
  | y :: ds, d => by
    have := minF_mem ds (if PySem.W.dataLt y.py d.py then y else d)
    have e : minF d (y :: ds) = minF (if PySem.W.dataLt y.py d.py then y else d) ds := rfl
    rw [e]
    rcases List.mem_cons.mp this with h | h
    · rw [h]; split <;> simp
    · simp [h]
theorem maxF_mem : ∀ (ds : List D) (d : D), maxF d ds ∈ d :: ds
  | [], d => by simp [maxF]
  | y :: ds, d => by
    have := maxF_mem ds (if PySem.W.dataLt d.py y.py then y else d)
    have e : maxF d (y :: ds) = maxF (if PySem.W.dataLt d.py y.py then y else d) ds := rfl
    rw [e]
    rcases List.mem_cons.mp this with h | h
    · rw [h]; split <;> simp
    · simp [h]
theorem cvd_min : CallVD (rBestDef X.K PySem.W.minD) dMinDef := bestDef minF_py (fun d ds => minF_mem ds d) (fun _ => rfl) (fun _ _ _ => rfl) fun x y hx => by
  cases x <;> first | rfl | exact absurd rfl (hx _)
theorem cvd_max : CallVD (rBestDef X.K PySem.W.maxD) dMaxDef := bestDef maxF_py (fun d ds => maxF_mem ds d) (fun _ => rfl) (fun _ _ _ => rfl) fun x y hx => by
  cases x <;> first | rfl | exact absurd rfl (hx _)
/-- min(x, default=y) -/
def gBest (h : D → D → Option D) (ga : Sl → R Vl) (gb : Sl → R D) : Sl → R D := fun S => (ga S).bind fun x S1 => (gb S1).bind fun y S2 => if x.lev then (match h x.d y with | some d => .ok d S2 | none => .stuck) else .stuck
theorem vd_best {x : Str} {pn : Pos} {id : String} {r : List V → List V → Hp → VK → Prop} {h : D → D → Option D} {ga : Sl → R Vl} {gb : Sl → R D} {kpos : Pos} (hc : CallRK X (.builtin id) [Str.ofString "default"] r) (hr : CallVD r h) (ha : VE p X W ea ga) (hb : VD true X W eb gb) (hg : Gl X x := by rfl) (hm : X.mg x = none) (hv : bootBuiltins x = some (.builtin id))
    (hn : x ≠ "__name__" := by decide) (hdb : (x == ("__debug__" : Str)) = false := by decide)
    (he : backTo pos (starEach [ea] X.env) = (false, eval ea X.env) :: backTo pos (starEach [] X.env) := by rfl) (he1 : starEach [ea] X.env = (false, eval ea X.env) :: starEach [] X.env := by rfl) (hpl : (backTo pos (starEach [ea] X.env)).any (·.1) = false := by rfl)
    (hall : (backToKw pos (keywordEach [⟨some "default", eb, kpos⟩] X.env)).all (·.1.isSome) = true := by rfl) (hnone : (backToKw pos (keywordEach [⟨some "default", eb, kpos⟩] X.env)).any (·.1.isNone) = false := by rfl)
    (hks : (backToKw pos (keywordEach [⟨some "default", eb, kpos⟩] X.env)).filterMap (·.1) = [Str.ofString "default"] := by rfl) :
    VD p X W (.Call (.Name x pn) [ea] [⟨some "default", eb, kpos⟩] pos) (gBest h ga gb) := by
  obtain ⟨t, a1, a2⟩ := ha
  obtain ⟨u, b1, b2⟩ := hb
  refine ⟨_, pe_callBK hc hg hm hv (pa_cons a1 pa_nil he1) (pk_cons b1 pk_nil) hn hdb he hpl hall hnone hks, fun σ0 σ G H S F Q r' hw => ?_⟩
  refine VE.then (t := t) a2 r' hw fun y S1 v fp G1 H1 F1 r1 g1 z1 hw1 => ?_
  refine VD.then (t := u) b2 r1 hw1 fun d S2 w G2 H2 F2 r2 g2 z2 hw2 => ?_
  split at hw2
  case isFalse => exact hw2.elim
  rename_i hlev
  cases hd : h y.d d with
  | none => rw [hd] at hw2; exact hw2.elim
  | some d' =>
    rw [hd] at hw2
    exact hr y.d d d' hd G2 H2 v w _ ((z1.carry g2 (.inr rfl)).rv1 hlev) z2 r2.inc fun w' z' => hw2 w' G2 H2 F2 r2 (by have := g1.trans g2; rwa [Bool.and_true] at this) z'
end
end VL

set_option Elab.async false
set_option linter.all false
set_option autoImplicit false
set_option maxRecDepth 100000
namespace VL
open PySem PySem.Spec L2
open PyProof.Rows hiding St

/-! ### comprehensions whose elements are owned -/
def loopLcO (m : Nat) (ga : D → Sl → Option Sl) (gt : Sl → R Bool) (ge : Sl → R Vl) : List D → Sl → R (List D)
  | [], S => .ok [] S
  | d :: ds, S => match ga d S with
    | none => .stuck
    | some S1 => (gt S1).bind fun b S2 => if b then (ge S2).bind fun y S3 => if !y.b && y.k == m then (loopLcO m ga gt ge ds S).bind fun ys S4 => .ok (y.d :: ys) S4 else .stuck
      else loopLcO m ga gt ge ds S
def gLcO (m : Nat) (vs : List Nat) (gi : Sl → R (List D)) (ga : D → Sl → Option Sl) (gt : Sl → R Bool) (ge : Sl → R Vl) : Sl → R Vl := fun S => (gi S).bind fun xs S1 =>
  if wipeOk vs S1 && lineOk xs then (loopLcO m ga gt ge xs (S1.wipe vs)).noerr.bind fun ys S2 => .ok ⟨false, m + 1, .lst ys⟩ (restFrom vs 0 S2 S1) else .stuck
section
variable {X : Cx} {W : WX} {p q q' : Bool} {e ea eb ec : Expr} {es : List Expr} {pos : Pos}
variable {σ0 σ : St} {G H G1 H1 G2 H2 : Hp} {F F1 F2 : Fps} {S S1 S2 : Sl}
def LcIO (m : Nat) (vs : List Nat) (ga : D → Sl → Option Sl) (gt : Sl → R Bool) (ge : Sl → R Vl) (xs : List D) (σ0 σw : St) (G1 H1 : Hp) (F1 : Fps) (Sw : Sl) (C : Addr) (Fin : List D → Sl → Prop) (i : Nat) (H : Hp) : Prop :=
  ∃ acc us fc G, i ≤ xs.length ∧ SR σ0 G H σw Sw F1 ∧ Gr true G1 H1 F1 Sw G H F1 Sw ∧ H C = some (.lst us) ∧ OwL (Ow G H m) acc us fc ∧ fc.Nodup ∧ (∀ a ∈ fc, a ≠ C ∧ (∀ j, a ∉ F1 j) ∧ G a = none ∧ H1 a = none) ∧ acc.length ≤ i ∧ (∀ j, C ∉ F1 j) ∧ G C = none ∧ (∀ j ∈ vs, F1 j = []) ∧
    (loopLcO m ga gt ge (xs.drop i) Sw).wp (fun ys S' => Fin (acc ++ ys) S') (fun _ _ _ => False)
theorem loopLcO_ok {m : Nat} {ga : D → Sl → Option Sl} {gt : Sl → R Bool} {ge : Sl → R Vl} : ∀ {ds : List D} {S S' : Sl} {ys : List D}, loopLcO m ga gt ge ds S = .ok ys S' → S' = S
  | [], S, S', ys, h => by cases h; rfl
  | d :: ds, S, S', ys, h => by
    simp only [loopLcO] at h
    cases hg : ga d S with
    | none => rw [hg] at h; cases h
    | some S1 =>
      rw [hg] at h
      simp only [R.bind] at h
      cases ht : gt S1 with
      | stuck => rw [ht] at h; cases h
      | err => rw [ht] at h; cases h
      | ok b S2 =>
        rw [ht] at h
        simp only [] at h
        cases b with
        | false => exact loopLcO_ok (by simpa using h)
        | true =>
          simp only [if_true] at h
          cases he : ge S2 with
          | stuck => rw [he] at h; cases h
          | err => rw [he] at h; cases h
          | ok y S3 =>
            rw [he] at h
            simp only [] at h
            split at h
            case isFalse => cases h
            cases hl : loopLcO m ga gt ge ds S with
            | stuck => rw [hl] at h; cases h
            | err => rw [hl] at h; cases h
            | ok ys2 S4 =>
              rw [hl] at h
              cases h
              exact loopLcO_ok hl
theorem loopLcO_st {m : Nat} {ga : D → Sl → Option Sl} {gt : Sl → R Bool} {ge : Sl → R Vl} {ds : List D} {S : Sl} {ok : List D → Sl → Prop} {er : Addr → Option (Str × D) → Sl → Prop} (h : (loopLcO m ga gt ge ds S).wp ok er) : (loopLcO m ga gt ge ds S).wp (fun ys S' => S' = S ∧ ok ys S') er := by
  cases hl : loopLcO m ga gt ge ds S with
  | stuck => rw [hl] at h; exact h
  | err => rw [hl] at h; exact h
  | ok ys S' => rw [hl] at h; exact ⟨loopLcO_ok hl, h⟩
theorem lcO_sem {m : Nat} {vs vs' : List Nat} {b : Bool} {gi : Sl → R (List D)} {ga : D → Sl → Option Sl} {gt : Sl → R Bool} {ge : Sl → R Vl} {wi : TI}
    (i2 : ∀ (Q : It → Hp → Prop), (gi S).wp (fun xs S' => ∀ J G' H' F', SR σ0 G' H' σ S' F' → Gr p G H F S G' H' F' S' → ItOk b J G' H' xs → Q J H') (OkE σ0 σ G H S F W) → wi σ H Q)
    (hv : vs'.all (fun v => vs.contains v) = true) {Q : VK} (r : SR σ0 G H σ S F) (hw : (gLcO m vs gi ga gt ge S).wp (OkV p σ0 σ G H S F Q) (OkE σ0 σ G H S F W)) :
    tLc wi (tVG vs' ga) (tVT true W0 gt) (tV true W0 ge) vs σ H Q := by
  refine i2 _ (R.wp_mono (R.wp_bind hw) (fun xs S1 hw1 J G1 H1 F1 r1 g1 ito => ?_) fun _ _ _ h => h)
  split at hw1
  case isFalse => exact hw1.elim
  rename_i hwo
  obtain ⟨hwo, hlx⟩ := Bool.and_eq_true_iff.mp hwo
  intro C hC
  obtain ⟨rw1, rw2⟩ := r1.wipe hwo
  have hw2 : (loopLcO m ga gt ge xs (S1.wipe vs)).wp (fun ys S' => OkV p σ0 σ G H S F Q ⟨false, m + 1, .lst ys⟩ (restFrom vs 0 S' S1)) (fun _ _ _ => False) := R.wp_noerr hw1
  have hw2 := loopLcO_st hw2
  generalize hFin : (fun (ys : List D) (S' : Sl) => S' = S1.wipe vs ∧ OkV p σ0 σ G H S F Q ⟨false, m + 1, .lst ys⟩ (restFrom vs 0 S' S1)) = Fin at hw2
  have gone : ∀ i, C ∉ F1 i := fun i => r1.notF hC i
  refine ⟨fun i k H => k = xs.length - i ∧ LcIO m vs ga gt ge xs σ0 (L2.wipe σ vs) G1 H1 F1 (S1.wipe vs) C Fin i H, ⟨xs.length, rfl, [], [], [], G1, Nat.zero_le _, rw1.new hC, (Gr.refl rw1).updD hC, upd_same, ⟨rfl, rfl⟩, .nil, (fun _ h => by simp at h), Nat.le_refl _, gone, r1.gNone hC, rw2, by simpa using hw2⟩, ?_⟩
  rintro i k H' ⟨rfl, acc, us, fc, G', hi, r', g', hHC, ow, fnd, fsp, hal, hCF, hCG, hFv, hl⟩
  have it := ito G' H' g'.up r'.inc r'.tp (fun hb' => (g'.pure rfl).2.2.1) i
  by_cases hlt : i < xs.length
  · -- a turn
    obtain ⟨d, hd⟩ : ∃ d, xs[i]? = some d := ⟨xs[i], by simp [hlt]⟩
    have hdr : xs.drop i = d :: xs.drop (i + 1) := by
      rw [List.drop_eq_getElem_cons hlt]
      rw [List.getElem?_eq_getElem hlt] at hd
      cases hd; rfl
    rw [hdr] at hl
    obtain ⟨go, yl⟩ := it.1 d hd
    refine .inr ⟨go, LcIO m vs ga gt ge xs σ0 (L2.wipe σ vs) G1 H1 F1 (S1.wipe vs) C Fin (i + 1), fun H'' h => ⟨_, by omega, rfl, h⟩, fun x H2 hy => ?_⟩
    obtain ⟨G2, r2, g2, z2⟩ := fy_step r' (yl x H2 hy)
    have hHC2 := g2.fr C _ hHC hCF
    have hCG2 := g2.keepG hHC hCF hCG
    simp only [loopLcO] at hl
    cases hga : ga d (S1.wipe vs) with
    | none => rw [hga] at hl; exact hl.elim
    | some Sa =>
      rw [hga] at hl
      refine ⟨σ0, G2, S1.wipe vs, F1, d, Sa, r2, z2, hga, fun σ2 F2 ra asg => ?_⟩
      have hF2 : F2 = F1 := by
        funext j
        rcases asg.F j with h | ⟨h1, h2⟩
        · exact h
        · rw [h2, hFv j (by simpa using List.all_eq_true.mp hv j h1)]
      subst hF2
      have hσ : L2.wipe σ2 vs = L2.wipe σ vs := hwipe_ext (by rw [asg.len, L2.wipe_length]) fun j hj => by
        rw [asg.σ j fun h => hj (by simpa using List.all_eq_true.mp hv j h), hwipe_ne hj]
      refine ⟨hσ, σ0, G2, Sa, F2, ra, R.wp_mono (R.wp_bind hl) (fun bb S3 hb3 G3 H3 F3 r3 g3 => ?_) fun _ _ _ h => h.elim⟩
      have hHC3 := g3.fr C _ hHC2 hCF
      have hCG3 := g3.keepG hHC2 hCF hCG2
      -- what the parts own stays
      have keep : ∀ {G4 H4 : Hp} {F4 : Fps} {S4 : Sl}, Gr true G2 H2 F2 Sa G4 H4 F4 S4 → OwL (Ow G4 H4 m) acc us fc ∧ ∀ a ∈ fc, G4 a = none := fun {G4 H4 F4 S4} g4 => by
        have dm : ∀ a ∈ fc, ∃ o, H' a = some o := OwL.dom ow (C := fun a => ∃ o, H' a = some o) fun d v f h => Ow.dom h
        refine ⟨ow.mono fun d v f hf h => h.keep (g2.up.trans g4.up) fun a ha o ho => ?_, fun a ha => ?_⟩
        · obtain ⟨_, h2, _⟩ := fsp a (hf a ha)
          exact g4.fr a o (g2.fr a o ho h2) h2
        · obtain ⟨_, h2, h3, _⟩ := fsp a ha
          obtain ⟨o, ho⟩ := dm a ha
          exact g4.keepG (g2.fr a o ho h2) h2 (g2.keepG ho h2 h3)
      have fin : ∀ {G4 H4 : Hp} {F4 : Fps} {S4 : Sl}, SR σ0 G4 H4 σ2 S4 F4 → Gr true G2 H2 F2 Sa G4 H4 F4 S4 → F4 = F2 ∧
          SR σ0 G4 H4 (L2.wipe σ vs) (S1.wipe vs) F2 ∧ Gr true G1 H1 F2 (S1.wipe vs) G4 H4 F2 (S1.wipe vs) := fun {G4 H4 F4 S4} r4 g4 => by
        obtain ⟨e, g5⟩ := g4.slots (T := S1.wipe vs)
        subst e
        exact ⟨rfl, r2.later g4 r4.inc r4.fs r4.tp, g'.trans (g2.trans g5)⟩
      cases bb with
      | false =>
        simp only [Bool.false_eq_true, if_false] at hb3 ⊢
        obtain ⟨e, f1, f2⟩ := fin r3 g3
        obtain ⟨k1, k2⟩ := keep g3
        exact ⟨acc, us, fc, G3, hlt, f1, f2, hHC3, k1, fnd, fun a ha => ⟨(fsp a ha).1, (fsp a ha).2.1, k2 a ha, (fsp a ha).2.2.2⟩, Nat.le_succ_of_le hal, hCF, hCG3, hFv, hb3⟩
      | true =>
        simp only [if_true] at hb3 ⊢
        refine ⟨σ0, G3, S3, F3, r3, R.wp_mono (R.wp_bind hb3) (fun y S4 hb4 v fq G4 H4 F4 r4 g4 z4 => ?_) fun _ _ _ h => h.elim⟩
        split at hb4
        case isFalse => exact hb4.elim
        rename_i hok
        obtain ⟨hyb, hyk⟩ := Bool.and_eq_true_iff.mp hok
        have hyb : y.b = false := by simpa using hyb
        have hyk : y.k = m := by simpa using hyk
        have g34 := g3.trans g4
        obtain ⟨e3, _, _⟩ := fin r3 g3
        subst e3
        obtain ⟨e4, f1, f2⟩ := fin r4 g34
        subst e4
        obtain ⟨k1, k2⟩ := keep g34
        have hHC4 := g4.fr C _ hHC3 hCF
        have hCG4 := g4.keepG hHC3 hCF hCG3
        have dm : ∀ a ∈ fc, ∃ o, H' a = some o := OwL.dom ow (C := fun a => ∃ o, H' a = some o) fun d v f h => Ow.dom h
        -- the new part is new
        have nw : ∀ a ∈ fq, H3 a = none := fun a ha => by
          rcases z4.src hyb a ha with ⟨j, hj⟩ | h
          · exact absurd hj (z4.dj hyb j a ha)
          · exact h
        have nC : C ∉ fq := fun h => by rw [nw C h] at hHC3; cases hHC3
        have nfc : ∀ a ∈ fc, a ∉ fq := fun a ha hq => by
          obtain ⟨o, ho⟩ := dm a ha
          obtain ⟨_, h2, _⟩ := fsp a ha
          have := g3.fr a o (g2.fr a o ho h2) h2
          rw [nw a hq] at this; cases this
        refine ⟨us, hHC4, ?_, acc ++ [y.d], us ++ [v], fc ++ fq, G4, hlt, f1.upd_out hCF hCG4, f2.updD hC, upd_same, ?_, ?_, ?_, by simp; omega, hCF, hCG4, hFv, ?_⟩
        · rw [ow.length]
          exact Nat.lt_of_lt_of_le (Nat.lt_of_le_of_lt hal hlt) (lineOk.le hlx)
        · have k1' : OwL (Ow G4 (upd H4 C (.lst (us ++ [v]))) m) acc us fc := k1.mono fun d u f hf h => h.keep (Inc.refl _) fun a ha o ho => by
            rw [upd_ne (fsp a (hf a ha)).1]; exact ho
          have z5 : Ow G4 (upd H4 C (.lst (us ++ [v]))) m y.d v fq := by
            have := z4.ow
            rw [hyk] at this
            exact this.keep (Inc.refl _) fun a ha o ho => by
              have hne : a ≠ C := fun e => nC (by rw [← e]; exact ha)
              rw [upd_ne hne]; exact ho
          exact k1'.append (OwL.one z5)
        · exact List.nodup_append.mpr ⟨fnd, z4.nd hyb, fun a ha b hb e => nfc a ha (e ▸ hb)⟩
        · intro a ha
          rcases List.mem_append.mp ha with ha | ha
          · exact ⟨(fsp a ha).1, (fsp a ha).2.1, k2 a ha, (fsp a ha).2.2.2⟩
          · refine ⟨fun e => nC (by rw [← e]; exact ha), fun j => z4.dj hyb j a ha, z4.ns hyb a ha, ?_⟩
            cases hh : H1 a with
            | none => rfl
            | some o =>
              have h0 := g'.fr a o hh fun j => z4.dj hyb j a ha
              have h1 := g3.fr a o (g2.fr a o h0 fun j => z4.dj hyb j a ha) fun j => z4.dj hyb j a ha
              rw [nw a ha] at h1; cases h1
        · refine R.wp_mono (R.wp_bind hb4) (fun ys S5 h5 => ?_) fun _ _ _ h => h
          rw [List.append_assoc]
          exact h5
  · -- the end
    have hie : i = xs.length := by omega
    subst hie
    refine .inl ⟨it.2 (Nat.le_refl _), ?_⟩
    rw [List.drop_length] at hl
    have hl : Fin (acc ++ []) (S1.wipe vs) := hl
    rw [List.append_nil] at hl
    subst hFin
    obtain ⟨_, hl⟩ := hl
    have e : restFrom vs 0 (S1.wipe vs) S1 = S1 := restFrom_wipe vs S1
    rw [e] at hl
    have ru := r1.unwipe hwo r' hFv g'.up
    rw [e] at ru
    obtain ⟨a1, a2, a3, a4⟩ := g'.pure rfl
    have g5 : Gr true G1 H1 F1 S1 G' H' F1 S1 := ⟨g'.up, g'.new, g'.fr, g'.src, fun _ => ⟨rfl, rfl, a3, a4⟩⟩
    refine hl (.ref C) (C :: fc) G' H' F1 ru (by have := g1.trans g5; rwa [Bool.and_true] at this) ?_
    refine VP.from g1 ⟨⟨C, us, fc, rfl, hHC, rfl, ow⟩, fun _ => List.nodup_cons.mpr ⟨fun h => (fsp C h).1 rfl, fnd⟩, fun _ a ha => ?_, fun _ j a ha => ?_, fun _ a ha => ?_⟩
    · rcases List.mem_cons.mp ha with rfl | ha
      · exact .inr hC
      · exact .inr (fsp a ha).2.2.2
    · rcases List.mem_cons.mp ha with rfl | ha
      · exact hCF j
      · exact (fsp a ha).2.1 j
    · rcases List.mem_cons.mp ha with rfl | ha
      · exact hCG
      · exact (fsp a ha).2.2.1
theorem ve_lcO {m : Nat} {elt tg iter : Expr} {ifs : List Expr} {scope : Scope} {own : List (Str × Nat)} {vs' : List Nat} {b : Bool} {gi : Sl → R (List D)} {ga : D → Sl → Option Sl} {gt : Sl → R Bool} {ge : Sl → R Vl}
    (hc : X.calm = true) (hN : X.N.Nodup) (hi : VI p b X W tg iter gi) (ok : BlkOk X.N X.env.scope scope own)
    (hg : ∀ (s : Shared) (H : Hp) (C : Addr) (cl : List (Str × Addr)) (fp : List Addr), VG (X.blk s H scope (compEnvC scope cl C X.env) fp) tg vs' ga)
    (ht : ∀ (s : Shared) (H : Hp) (C : Addr) (cl : List (Str × Addr)) (fp : List Addr), VTs true (X.blk s H scope (compEnvC scope cl C X.env) fp) W0 ifs gt)
    (he : ∀ (s : Shared) (H : Hp) (C : Addr) (cl : List (Str × Addr)) (fp : List Addr), VE true (X.blk s H scope (compEnvC scope cl C X.env) fp) W0 elt ge)
    (hv : vs'.all (fun v => (own.map (·.2)).contains v) = true) (hs : ∀ x, foldedSetIterable iter X.env x = pure x := by intro _; rfl) :
    VE p X W (.ListComp elt [⟨tg, iter, ifs, 0⟩] scope pos) (gLcO m (own.map (·.2)) gi ga gt ge) := by
  obtain ⟨wi, i1, i2⟩ := hi
  exact ⟨_, pe_lc hc hN i1 ok (fun s H C cl fp => (hg s H C cl fp).can) (fun s H C cl fp => (ht s H C cl fp).can) (fun s H C cl fp => (he s H C cl fp).can) hs, fun σ0 σ G H S F Q r hw => lcO_sem (fun Q h => i2 σ0 σ G H S F Q r h) hv r hw⟩
theorem vs_setLcO {m : Nat} (i : Nat) {x : Str} {pos' pos2 : Pos} {elt tg iter : Expr} {ifs : List Expr} {scope : Scope} {own : List (Str × Nat)} {vs' : List Nat} {b : Bool} {gi : Sl → R (List D)} {ga : D → Sl → Option Sl} {gt : Sl → R Bool} {ge : Sl → R Vl}
    (hc : X.calm = true) (hN : X.N.Nodup) (hi : VI p b X W tg iter gi) (ok : BlkOk X.N X.env.scope scope own)
    (hg : ∀ (s : Shared) (H : Hp) (C : Addr) (cl : List (Str × Addr)) (fp : List Addr), VG (X.blk s H scope (compEnvC scope cl C X.env) fp) tg vs' ga)
    (ht : ∀ (s : Shared) (H : Hp) (C : Addr) (cl : List (Str × Addr)) (fp : List Addr), VTs true (X.blk s H scope (compEnvC scope cl C X.env) fp) W0 ifs gt)
    (he : ∀ (s : Shared) (H : Hp) (C : Addr) (cl : List (Str × Addr)) (fp : List Addr), VE true (X.blk s H scope (compEnvC scope cl C X.env) fp) W0 elt ge)
    (hv : vs'.all (fun v => (own.map (·.2)).contains v) = true)
    (hsw : swapsWith (.ListComp elt [⟨tg, iter, ifs, 0⟩] scope pos2) (some (.Name x pos')) pos.line X.env = pure true := by rfl) (hy : X.N[i]? = some x := by rfl) (hyl : X.env.scope.names.lookup x = some .local := by rfl) (hs : ∀ x, foldedSetIterable iter X.env x = pure x := by intro _; rfl) :
    VS X W (.Assign [.Name x pos'] (.ListComp elt [⟨tg, iter, ifs, 0⟩] scope pos2) pos) (gSet i (gLcO m (own.map (·.2)) gi ga gt ge)) := by
  obtain ⟨wi, i1, i2⟩ := hi
  refine ⟨_, ps_setLc hc hN hy hyl hsw i1 ok (fun s H C cl fp => (hg s H C cl fp).can) (fun s H C cl fp => (ht s H C cl fp).can) (fun s H C cl fp => (he s H C cl fp).can) hs, fun σ0 σ G H S F D r hw => ?_⟩
  have h2 : ∀ σ0 σ G H S F Q, SR σ0 G H σ S F → (gLcO m (own.map (·.2)) gi ga gt ge S).wp (OkV p σ0 σ G H S F Q) (OkE σ0 σ G H S F W) → tLc wi (tVG vs' ga) (tVT true W0 gt) (tV true W0 ge) (own.map (·.2)) σ H Q := fun σ0 σ G H S F Q r hw => lcO_sem (fun Q h => i2 σ0 σ G H S F Q r h) hv r hw
  exact set_sem h2 r hw
end
end VL

set_option Elab.async false
set_option linter.all false
set_option autoImplicit false
set_option maxRecDepth 100000
namespace VL
open PySem PySem.Spec L2
open PyProof.Rows hiding St

/-! ### comprehensions with two for, all parts pure -/
def loopLc2 (vs1 : List Nat) (ga : D → Sl → Option Sl) (gt : Sl → R Bool) (gi1 : Sl → R (List D)) (ga1 : D → Sl → Option Sl) (gt1 : Sl → R Bool) (ge : Sl → R D) : List D → Sl → R (List D)
  | [], S => .ok [] S
  | d :: ds, S => match ga d S with
    | none => .stuck
    | some S1 => (gt S1).bind fun b S2 => if b then (gi1 S2).bind fun ys S3 => if wipeOk vs1 S3 then (loopLc true vs1 ga1 gt1 ge ys (S3.wipe vs1)).bind fun zs _ => (loopLc2 vs1 ga gt gi1 ga1 gt1 ge ds S).bind fun ws S4 => .ok (zs ++ ws) S4 else .stuck
      else loopLc2 vs1 ga gt gi1 ga1 gt1 ge ds S
def gLc2 (vs vs1 : List Nat) (gi : Sl → R (List D)) (ga : D → Sl → Option Sl) (gt : Sl → R Bool) (gi1 : Sl → R (List D)) (ga1 : D → Sl → Option Sl) (gt1 : Sl → R Bool) (ge : Sl → R D) : Sl → R Vl := fun S => (gi S).bind fun xs S1 =>
  if wipeOk vs S1 then (loopLc2 vs1 ga gt gi1 ga1 gt1 ge xs (S1.wipe vs)).noerr.bind fun ys _ => if lineOk ys then .ok ⟨false, 1, .lst ys⟩ S1 else .stuck else .stuck
theorem R.bind_ok {α β : Type} {r : R α} {f : α → Sl → R β} {b : β} {S' : Sl} (h : r.bind f = .ok b S') : ∃ a S, r = .ok a S ∧ f a S = .ok b S' := by
  cases r with
  | stuck => cases h
  | err => cases h
  | ok a S => exact ⟨a, S, rfl, h⟩
section
variable {X : Cx} {W : WX} {p q q' : Bool} {e ea eb ec : Expr} {es : List Expr} {pos : Pos}
variable {σ0 σ : St} {G H G1 H1 G2 H2 : Hp} {F F1 F2 : Fps} {S S1 S2 : Sl}
theorem lc2_sem {vs vs1 vs' vs1' : List Nat} {b : Bool} {gi gi1 : Sl → R (List D)} {ga ga1 : D → Sl → Option Sl} {gt gt1 : Sl → R Bool} {ge : Sl → R D} {wi wi1 : TI} {W1 : WX}
    (i2 : ∀ (Q : It → Hp → Prop), (gi S).wp (fun xs S' => ∀ J G' H' F', SR σ0 G' H' σ S' F' → Gr p G H F S G' H' F' S' → ItOk b J G' H' xs → Q J H') (OkE σ0 σ G H S F W) → wi σ H Q)
    (j2 : ∀ σ0 σ G H S F (Q : It → Hp → Prop), SR σ0 G H σ S F → (gi1 S).wp (fun xs S' => ∀ J G' H' F', SR σ0 G' H' σ S' F' → Gr true G H F S G' H' F' S' → ItOk false J G' H' xs → Q J H') (OkE σ0 σ G H S F W1) → wi1 σ H Q)
    (hv : vs'.all (fun v => vs.contains v) = true) (hv1 : vs1'.all (fun v => vs1.contains v) = true) (hv2 : vs1.all (fun v => vs.contains v) = true) {Q : VK} (r : SR σ0 G H σ S F) (hw : (gLc2 vs vs1 gi ga gt gi1 ga1 gt1 ge S).wp (OkV p σ0 σ G H S F Q) (OkE σ0 σ G H S F W)) :
    tLc2 wi (tVG vs' ga) (tVT true W0 gt) wi1 (tVG vs1' ga1) (tVT true W0 gt1) (tVD true W0 ge) vs vs1 σ H Q := by
  refine i2 _ (R.wp_mono (R.wp_bind hw) (fun xs S1 hw1 J G1 H1 F1 r1 g1 ito => ?_) fun _ _ _ h => h)
  split at hw1
  case isFalse => exact hw1.elim
  rename_i hwo
  intro C hC
  obtain ⟨rw1, rw2⟩ := r1.wipe hwo
  obtain ⟨tot, St, htot, hfin, hlt⟩ : ∃ tot St, loopLc2 vs1 ga gt gi1 ga1 gt1 ge xs (S1.wipe vs) = .ok tot St ∧ OkV p σ0 σ G H S F Q ⟨false, 1, .lst tot⟩ S1 ∧ tot.length ≤ 16777216 := by
    cases hl : loopLc2 vs1 ga gt gi1 ga1 gt1 ge xs (S1.wipe vs) with
    | stuck => rw [hl] at hw1; exact hw1.elim
    | err => rw [hl] at hw1; exact hw1.elim
    | ok tot St =>
      rw [hl] at hw1
      change (if lineOk tot = true then R.ok (⟨false, 1, .lst tot⟩ : Vl) S1 else .stuck).wp _ _ at hw1
      split at hw1
      case isFalse => exact hw1.elim
      rename_i hlo
      exact ⟨tot, St, rfl, hw1, lineOk.le hlo⟩
  have gone : ∀ i, C ∉ F1 i := fun i => r1.notF hC i
  let I2 : Nat → Hp → Prop := fun i H => ∃ acc us G rest S9, i ≤ xs.length ∧ SR σ0 G H (L2.wipe σ vs) (S1.wipe vs) F1 ∧ Gr true G1 H1 F1 (S1.wipe vs) G H F1 (S1.wipe vs) ∧ H C = some (.lst us) ∧ FzL G acc us ∧ G C = none ∧ loopLc2 vs1 ga gt gi1 ga1 gt1 ge (xs.drop i) (S1.wipe vs) = .ok rest S9 ∧ acc ++ rest = tot
  refine ⟨fun i k H => k = xs.length - i ∧ I2 i H, ⟨xs.length, rfl, [], [], G1, tot, St, Nat.zero_le _, rw1.new hC, (Gr.refl rw1).updD hC, upd_same, .nil, r1.gNone hC, by simpa using htot, rfl⟩, ?_⟩
  rintro i k H' ⟨rfl, acc, us, G', rest, S9, hi, r', g', hHC, fz, hCG, hl, hacc⟩
  have it := ito G' H' g'.up r'.inc r'.tp (fun hb' => (g'.pure rfl).2.2.1) i
  by_cases hlt2 : i < xs.length
  · -- a turn
    obtain ⟨d, hd⟩ : ∃ d, xs[i]? = some d := ⟨xs[i], by simp [hlt2]⟩
    have hdr : xs.drop i = d :: xs.drop (i + 1) := by
      rw [List.drop_eq_getElem_cons hlt2]
      rw [List.getElem?_eq_getElem hlt2] at hd
      cases hd; rfl
    rw [hdr] at hl
    obtain ⟨go, yl⟩ := it.1 d hd
    refine .inr ⟨go, I2 (i + 1), fun H'' h => ⟨_, by omega, rfl, h⟩, fun x H2 hy => ?_⟩
    obtain ⟨G2, r2, g2, z2⟩ := fy_step r' (yl x H2 hy)
    have hHC2 := g2.fr C _ hHC gone
    have hCG2 := g2.keepG hHC gone hCG
    simp only [loopLc2] at hl
    cases hga : ga d (S1.wipe vs) with
    | none => rw [hga] at hl; cases hl
    | some Sa =>
      rw [hga] at hl
      refine ⟨σ0, G2, S1.wipe vs, F1, d, Sa, r2, z2, hga, fun σ2 F2 ra asg => ?_⟩
      have hF2 : F2 = F1 := by
        funext j
        rcases asg.F j with h | ⟨h1, h2⟩
        · exact h
        · rw [h2, rw2 j (by simpa using List.all_eq_true.mp hv j h1)]
      subst hF2
      have hσ : L2.wipe σ2 vs = L2.wipe σ vs := hwipe_ext (by rw [asg.len, L2.wipe_length]) fun j hj => by
        rw [asg.σ j fun h => hj (by simpa using List.all_eq_true.mp hv j h), hwipe_ne hj]
      obtain ⟨bb, S3, ht, hl⟩ := R.bind_ok hl
      refine ⟨hσ, σ0, G2, Sa, F2, ra, ?_⟩
      rw [ht]
      intro G3 H3 F3 r3 g3
      have hHC3 := g3.fr C _ hHC2 gone
      have hCG3 := g3.keepG hHC2 gone hCG2
      -- what stands at the end of a turn
      have fin : ∀ {G4 H4 : Hp} {S4 T4 : Sl} {F4 : Fps}, Gr true G2 H2 F2 T4 G4 H4 F4 S4 → Inc G4 H4 → (∀ i a, a ∈ F2 i → G4 a = none) → (∀ a us, H4 a = some (.tup us) → G4 a = some (.tup us)) →
          SR σ0 G4 H4 (L2.wipe σ vs) (S1.wipe vs) F2 ∧ Gr true G1 H1 F2 (S1.wipe vs) G4 H4 F2 (S1.wipe vs) := fun {G4 H4 S4 T4 F4} g4 i4 f4 t4 => by
        obtain ⟨e, g5⟩ := g4.slots (T := S1.wipe vs)
        exact ⟨r2.later g4 i4 f4 t4, g'.trans (g2.trans g5)⟩
      obtain ⟨eS3, eF3, _, _⟩ := g3.pure rfl
      subst eF3
      subst eS3
      cases bb with
      | false =>
        simp only [Bool.false_eq_true, if_false] at hl ⊢
        obtain ⟨f1, f2⟩ := fin g3 r3.inc r3.fs r3.tp
        exact ⟨acc, us, G3, rest, S9, hlt2, f1, f2, hHC3, fz.inc (g2.up.trans g3.up), hCG3, hl, hacc⟩
      | true =>
        simp only [if_true] at hl ⊢
        obtain ⟨ys, S5, hys, hl⟩ := R.bind_ok hl
        split at hl
        case isFalse => cases hl
        rename_i hwo1
        obtain ⟨zs, S6, hzs, hl⟩ := R.bind_ok hl
        obtain ⟨ws, S7, hws, hl⟩ := R.bind_ok hl
        cases hl
        refine j2 σ0 σ2 G3 H3 S3 F3 _ r3 ?_
        rw [hys]
        intro J1 G4 H4 F4 r4 g4 ito1
        have hHC4 := g4.fr C _ hHC3 gone
        have hCG4 := g4.keepG hHC3 gone hCG3
        obtain ⟨eS5, eF4, _, _⟩ := g4.pure rfl
        subst eF4
        subst eS5
        obtain ⟨rv1, rv2⟩ := r4.wipe hwo1
        let I1 : Nat → Hp → Prop := fun j H => ∃ acc us G r1 S8, j ≤ ys.length ∧ SR σ0 G H (L2.wipe σ2 vs1) (S5.wipe vs1) F4 ∧ SR σ0 G H (L2.wipe σ vs) (S1.wipe vs) F4 ∧ Gr true G1 H1 F4 (S1.wipe vs) G H F4 (S1.wipe vs) ∧ Inc G4 G ∧ H C = some (.lst us) ∧ FzL G acc us ∧ G C = none ∧ loopLc true vs1 ga1 gt1 ge (ys.drop j) (S5.wipe vs1) = .ok r1 S8 ∧ acc ++ (r1 ++ ws) = tot
        obtain ⟨fo1, fo2⟩ := fin (g3.trans g4) r4.inc r4.fs r4.tp
        refine ⟨fun j k H => k = ys.length - j ∧ I1 j H, ⟨ys.length, rfl, acc, us, G4, zs, S6, Nat.zero_le _, rv1, fo1, fo2, Inc.refl _, hHC4, fz.inc (g2.up.trans (g3.up.trans g4.up)), hCG4, by simpa using hzs, hacc⟩, ?_⟩
        rintro j k H5 ⟨rfl, acc1, us1, G5, r9, S8, hj, r5, ro5, go5, up5, hHC5, fz5, hCG5, hl5, hacc5⟩
        have it1 := ito1 G5 H5 up5 r5.inc r5.tp (fun hb' => nomatch hb') j
        by_cases hlt3 : j < ys.length
        · obtain ⟨d1, hd1⟩ : ∃ d, ys[j]? = some d := ⟨ys[j], by simp [hlt3]⟩
          have hdr1 : ys.drop j = d1 :: ys.drop (j + 1) := by
            rw [List.drop_eq_getElem_cons hlt3]
            rw [List.getElem?_eq_getElem hlt3] at hd1
            cases hd1; rfl
          rw [hdr1] at hl5
          obtain ⟨go1, yl1⟩ := it1.1 d1 hd1
          refine .inr ⟨go1, I1 (j + 1), fun H'' h => ⟨_, by omega, rfl, h⟩, fun x1 H6 hy1 => ?_⟩
          obtain ⟨G6, r6, g6, z6⟩ := fy_step r5 (yl1 x1 H6 hy1)
          have hHC6 := g6.fr C _ hHC5 gone
          have hCG6 := g6.keepG hHC5 gone hCG5
          simp only [loopLc] at hl5
          cases hga1 : ga1 d1 (S5.wipe vs1) with
          | none => rw [hga1] at hl5; cases hl5
          | some Sb =>
            rw [hga1] at hl5
            refine ⟨σ0, G6, S5.wipe vs1, F4, d1, Sb, r6, z6, hga1, fun σ3 F6 rb asg1 => ?_⟩
            have hF6 : F6 = F4 := by
              funext l
              rcases asg1.F l with h | ⟨h1, h2⟩
              · exact h
              · rw [h2, rv2 l (by simpa using List.all_eq_true.mp hv1 l h1)]
            subst hF6
            have hσ3 : L2.wipe σ3 vs1 = L2.wipe σ2 vs1 := hwipe_ext (by rw [asg1.len, L2.wipe_length]) fun l hl => by
              rw [asg1.σ l fun h => hl (by simpa using List.all_eq_true.mp hv1 l h), hwipe_ne hl]
            obtain ⟨b3, S10, ht1, hl5⟩ := R.bind_ok hl5
            refine ⟨hσ3, σ0, G6, Sb, F6, rb, ?_⟩
            rw [ht1]
            intro G7 H7 F7 r7 g7
            have hHC7 := g7.fr C _ hHC6 gone
            have hCG7 := g7.keepG hHC6 gone hCG6
            obtain ⟨eS7, eF7, _, _⟩ := g7.pure rfl
            subst eF7
            subst eS7
            have fin1 : ∀ {G4' H4' : Hp} {S4 T4 : Sl} {F4' : Fps}, Gr true G6 H6 F7 T4 G4' H4' F4' S4 → Inc G4' H4' → (∀ i a, a ∈ F7 i → G4' a = none) → (∀ a us, H4' a = some (.tup us) → G4' a = some (.tup us)) →
                SR σ0 G4' H4' (L2.wipe σ2 vs1) (S5.wipe vs1) F7 ∧ SR σ0 G4' H4' (L2.wipe σ vs) (S1.wipe vs) F7 ∧ Gr true G1 H1 F7 (S1.wipe vs) G4' H4' F7 (S1.wipe vs) := fun {G4' H4' S4 T4 F4'} g4 i4 f4 t4 => by
              obtain ⟨e, g5'⟩ := g4.slots (T := S1.wipe vs)
              have g56 : Gr true G5 H5 F7 (S1.wipe vs) G6 H6 F7 (S1.wipe vs) := (g6.slots (T := S1.wipe vs)).2
              exact ⟨r6.later g4 i4 f4 t4, ro5.later (g56.trans g5') i4 f4 t4, go5.trans (g56.trans g5')⟩
            cases b3 with
            | false =>
              simp only [Bool.false_eq_true, if_false, Bool.true_or, if_true] at hl5 ⊢
              obtain ⟨f1, f2, f3⟩ := fin1 g7 r7.inc r7.fs r7.tp
              exact ⟨acc1, us1, G7, r9, S8, hlt3, f1, f2, f3, up5.trans (g6.up.trans g7.up), hHC7, fz5.inc (g6.up.trans g7.up), hCG7, hl5, hacc5⟩
            | true =>
              simp only [if_true, Bool.true_or] at hl5 ⊢
              obtain ⟨y, S11, hge, hl5⟩ := R.bind_ok hl5
              obtain ⟨r10, S12, hr10, hl5⟩ := R.bind_ok hl5
              cases hl5
              refine ⟨σ0, G7, S10, F7, r7, ?_⟩
              rw [hge]
              intro v G8 H8 F8 r8 g8 z8
              have hHC8 := g8.fr C _ hHC7 gone
              have hCG8 := g8.keepG hHC7 gone hCG7
              obtain ⟨eS8, eF8, _, _⟩ := g8.pure rfl
              subst eF8
              subst eS8
              obtain ⟨f1, f2, f3⟩ := fin1 (g7.trans g8) r8.inc r8.fs r8.tp
              have fz8 := fz5.inc (g6.up.trans (g7.up.trans g8.up))
              refine ⟨us1, hHC8, ?_, acc1 ++ [y], us1 ++ [v], G8, r10, _, hlt3, f1.upd_out gone hCG8, f2.upd_out gone hCG8, f3.updD hC, up5.trans (g6.up.trans (g7.up.trans g8.up)), upd_same, fz8.append (.cons z8 .nil), hCG8, hr10, by rw [List.append_assoc]; exact hacc5⟩
              rw [fz5.length]
              have := congrArg List.length hacc5
              simp at this
              show acc1.length < 16777216
              omega
        · have hje : j = ys.length := by omega
          subst hje
          refine .inl ⟨it1.2 (Nat.le_refl _), ?_⟩
          rw [List.drop_length] at hl5
          cases hl5
          exact ⟨acc1, us1, G5, ws, _, hlt2, ro5, go5, hHC5, fz5, hCG5, hws, by simpa using hacc5⟩
  · -- the end
    have hie : i = xs.length := by omega
    subst hie
    refine .inl ⟨it.2 (Nat.le_refl _), ?_⟩
    rw [List.drop_length] at hl
    cases hl
    rw [List.append_nil] at hacc
    subst hacc
    have e : restFrom vs 0 (S1.wipe vs) S1 = S1 := restFrom_wipe vs S1
    have ru := r1.unwipe hwo r' rw2 g'.up
    rw [e] at ru
    obtain ⟨a1, a2, a3, a4⟩ := g'.pure rfl
    have g5 : Gr true G1 H1 F1 S1 G' H' F1 S1 := ⟨g'.up, g'.new, g'.fr, g'.src, fun _ => ⟨rfl, rfl, a3, a4⟩⟩
    refine hfin (.ref C) [C] G' H' F1 ru (by have := g1.trans g5; rwa [Bool.and_true] at this) ?_
    refine VP.from g1 ⟨⟨C, us, [], rfl, hHC, rfl, owL_fz fz⟩, fun _ => by simp, fun _ a ha => ?_, fun _ j a ha => ?_, fun _ a ha => ?_⟩
    · have e : a = C := by simpa using ha
      subst e; exact .inr hC
    · have e : a = C := by simpa using ha
      subst e; exact gone j
    · have e : a = C := by simpa using ha
      subst e; exact hCG
def tVI (p b : Bool) (W : WX) (g : Sl → R (List D)) : TI := fun σ H Q => ∃ σ0 G S F, SR σ0 G H σ S F ∧ (g S).wp (fun xs S' => ∀ J G' H' F', SR σ0 G' H' σ S' F' → Gr p G H F S G' H' F' S' → ItOk b J G' H' xs → Q J H') (OkE σ0 σ G H S F W)
theorem VI.can {b : Bool} {tg iter : Expr} {g : Sl → R (List D)} (h : VI p b X W tg iter g) : PI X tg iter (tVI p b W g) := by
  obtain ⟨t, h1, h2⟩ := h
  exact ⟨fun pins s σ H Q I ⟨σ0, G, S, F, r, hw⟩ => h1.run pins s σ H Q I (h2 σ0 σ G H S F Q r hw)⟩
theorem ve_lc2 {elt tg iter tg1 iter1 : Expr} {ifs ifs1 : List Expr} {scope : Scope} {own : List (Str × Nat)} {vs1 vs' vs1' : List Nat} {b : Bool} {gi gi1 : Sl → R (List D)} {ga ga1 : D → Sl → Option Sl} {gt gt1 : Sl → R Bool} {ge : Sl → R D}
    (hc : X.calm = true) (hN : X.N.Nodup) (hi : VI p b X W tg iter gi) (ok : BlkOk X.N X.env.scope scope own)
    (hg : ∀ (s : Shared) (H : Hp) (C : Addr) (cl : List (Str × Addr)) (fp : List Addr), VG (X.blk s H scope (compEnvC scope cl C X.env) fp) tg vs' ga)
    (ht : ∀ (s : Shared) (H : Hp) (C : Addr) (cl : List (Str × Addr)) (fp : List Addr), VTs true (X.blk s H scope (compEnvC scope cl C X.env) fp) W0 ifs gt)
    (hi1 : ∀ (s : Shared) (H : Hp) (C : Addr) (cl : List (Str × Addr)) (fp : List Addr), VI true false (X.blk s H scope (compEnvC scope cl C X.env) fp) W0 tg1 iter1 gi1)
    (hg1 : ∀ (s : Shared) (H : Hp) (C : Addr) (cl : List (Str × Addr)) (fp : List Addr), VG (X.blk s H scope (compEnvC scope cl C X.env) fp) tg1 vs1' ga1)
    (ht1 : ∀ (s : Shared) (H : Hp) (C : Addr) (cl : List (Str × Addr)) (fp : List Addr), VTs true (X.blk s H scope (compEnvC scope cl C X.env) fp) W0 ifs1 gt1)
    (he : ∀ (s : Shared) (H : Hp) (C : Addr) (cl : List (Str × Addr)) (fp : List Addr), VD true (X.blk s H scope (compEnvC scope cl C X.env) fp) W0 elt ge)
    (hv : vs'.all (fun v => (own.map (·.2)).contains v) = true) (hv1 : vs1'.all (fun v => vs1.contains v) = true) (hv2 : vs1.all (fun v => (own.map (·.2)).contains v) = true) (hs : ∀ x, foldedSetIterable iter X.env x = pure x := by intro _; rfl) (hs1 : ∀ env x, foldedSetIterable iter1 env x = pure x := by intro _ _; rfl) :
    VE p X W (.ListComp elt [⟨tg, iter, ifs, 0⟩, ⟨tg1, iter1, ifs1, 0⟩] scope pos) (gLc2 (own.map (·.2)) vs1 gi ga gt gi1 ga1 gt1 ge) := by
  obtain ⟨wi, i1, i2⟩ := hi
  exact ⟨_, pe_lc2 (vs1 := vs1) hc hN i1 ok (fun i hi => by simpa using List.all_eq_true.mp hv2 i hi) (fun s H C cl fp => (hg s H C cl fp).can) (fun s H C cl fp => (ht s H C cl fp).can) (fun s H C cl fp => VI.can (hi1 s H C cl fp)) (fun s H C cl fp => (hg1 s H C cl fp).can) (fun s H C cl fp => (ht1 s H C cl fp).can) (fun s H C cl fp => (he s H C cl fp).can) hs hs1, fun σ0 σ G H S F Q r hw => lc2_sem (fun Q h => i2 σ0 σ G H S F Q r h) (fun σ0 σ G H S F Q r h => ⟨σ0, G, S, F, r, h⟩) hv hv1 hv2 r hw⟩
end
end VL

set_option Elab.async false
set_option linter.all false
set_option autoImplicit false
set_option maxRecDepth 100000
namespace VL
open PySem PySem.Spec L2
open PyProof.Rows hiding St

/-! ### a place within what a slot owns -/
inductive Stp where
  | ix (n : Nat)
  | fl (s : Str)
def D.at : List Stp → D → Option D
  | [], d => some d
  | .ix n :: π, .lst xs => match xs[n]? with
    | some x => D.at π x
    | none => none
  | .fl s :: π, .obj c ns xs => match xs[ns.idxOf s]? with
    | some x => if s ∈ ns then D.at π x else none
    | none => none
  | _, _ => none
def D.put : List Stp → D → D → D
  | [], _, e => e
  | .ix n :: π, .lst xs, e => match xs[n]? with
    | some x => .lst (xs.set n (D.put π x e))
    | none => .lst xs
  | .fl s :: π, .obj c ns xs, e => match xs[ns.idxOf s]? with
    | some x => .obj c ns (xs.set (ns.idxOf s) (D.put π x e))
    | none => .obj c ns xs
  | _, d, _ => d
/-- what the reading of the place meets -/
def PathV (H : Hp) : List Stp → V → V → Prop
  | [], v, u => v = u
  | .ix n :: π, v, u => ∃ a vs w, v = .ref a ∧ H a = some (.lst vs) ∧ vs[n]? = some w ∧ PathV H π w u
  | .fl s :: π, v, u => ∃ a c dx fs w, v = .ref a ∧ H a = some (.ins c dx fs) ∧ fs.lookup s = some w ∧ PathV H π w u
theorem PathV.inc {H H' : Hp} (m : Inc H H') : ∀ {π : List Stp} {v u : V}, PathV H π v u → PathV H' π v u
  | [], v, u, h => h
  | .ix n :: π, v, u, h => by
    obtain ⟨a, vs, w, h1, h2, h3, h4⟩ := h
    exact ⟨a, vs, w, h1, m _ _ h2, h3, PathV.inc m h4⟩
  | .fl s :: π, v, u, h => by
    obtain ⟨a, c, dx, fs, w, h1, h2, h3, h4⟩ := h
    exact ⟨a, c, dx, fs, w, h1, m _ _ h2, h3, PathV.inc m h4⟩
theorem PathV.snoc_ix {H : Hp} {n : Nat} {a : Addr} {vs : List V} {w : V} (h1 : H a = some (.lst vs)) (h2 : vs[n]? = some w) : ∀ {π : List Stp} {v : V}, PathV H π v (.ref a) → PathV H (π ++ [.ix n]) v w
  | [], v, h => ⟨a, vs, w, h, h1, h2, rfl⟩
  | .ix k :: π, v, h => by
    obtain ⟨b, us, x, e1, e2, e3, e4⟩ := h
    exact ⟨b, us, x, e1, e2, e3, PathV.snoc_ix h1 h2 e4⟩
  | .fl s :: π, v, h => by
    obtain ⟨b, c, dx, fs, x, e1, e2, e3, e4⟩ := h
    exact ⟨b, c, dx, fs, x, e1, e2, e3, PathV.snoc_ix h1 h2 e4⟩
theorem PathV.snoc_fl {H : Hp} {s : Str} {a : Addr} {c : Addr} {dx : Addr} {fs : List (Str × V)} {w : V} (h1 : H a = some (.ins c dx fs)) (h2 : fs.lookup s = some w) : ∀ {π : List Stp} {v : V}, PathV H π v (.ref a) → PathV H (π ++ [.fl s]) v w
  | [], v, h => ⟨a, c, dx, fs, w, h, h1, h2, rfl⟩
  | .ix k :: π, v, h => by
    obtain ⟨b, us, x, e1, e2, e3, e4⟩ := h
    exact ⟨b, us, x, e1, e2, e3, PathV.snoc_fl h1 h2 e4⟩
  | .fl s :: π, v, h => by
    obtain ⟨b, c, dx, fs, x, e1, e2, e3, e4⟩ := h
    exact ⟨b, c, dx, fs, x, e1, e2, e3, PathV.snoc_fl h1 h2 e4⟩
theorem lookup_zip {α : Type} {s : Str} : ∀ {ns : List Str} {vs : List α} {w : α}, s ∈ ns → vs[ns.idxOf s]? = some w → (ns.zip vs).lookup s = some w
  | [], vs, w, h, e => by simp at h
  | n :: ns, [], w, h, e => by simp at e
  | n :: ns, v :: vs, w, h, e => by
    simp only [List.zip_cons_cons, List.lookup_cons]
    by_cases hn : s = n
    · subst hn
      simp [List.idxOf_cons] at e ⊢
      exact e
    · have h1 : (s == n) = false := by simpa using hn
      have h2 : (n == s) = false := by simpa using fun e => hn e.symm
      rw [h1]
      simp only [List.idxOf_cons, h2, cond_false, List.getElem?_cons_succ] at e
      exact lookup_zip (by simpa [hn] using h) (by simpa using e)
section
variable {P : D → V → List Addr → Prop}
/-- one item taken out; another may come in its place -/
theorem OwL.focus : ∀ {ds : List D} {vs : List V} {fp : List Addr} {j : Nat} {d : D}, OwL P ds vs fp → ds[j]? = some d → ∃ v f f', vs[j]? = some v ∧ P d v f ∧ fp.Perm (f ++ f') ∧
    ∀ (Q : D → V → List Addr → Prop) d' g, Q d' v g → (∀ d v h, (∀ a ∈ h, a ∈ f') → P d v h → Q d v h) → ∃ fp', OwL Q (ds.set j d') vs fp' ∧ fp'.Perm (g ++ f')
  | [], vs, fp, j, d, h, e => by simp at e
  | d0 :: ds, vs, fp, 0, d, h, e => by
    obtain ⟨v, r, f, g, rfl, rfl, h1, h2⟩ := h
    simp at e; subst e
    exact ⟨v, f, g, rfl, h1, .refl _, fun Q d' g' hq hm => ⟨g' ++ g, ⟨v, r, g', g, rfl, rfl, hq, h2.mono fun d v h hh hp => hm d v h hh hp⟩, .refl _⟩⟩
  | d0 :: ds, vs, fp, j + 1, d, h, e => by
    obtain ⟨v, r, f, g, rfl, rfl, h1, h2⟩ := h
    obtain ⟨u, f1, f2, e1, e2, e3, e4⟩ := OwL.focus (j := j) h2 (by simpa using e)
    refine ⟨u, f1, f ++ f2, by simpa using e1, e2, ?_, fun Q d' g' hq hm => ?_⟩
    · refine (List.Perm.append_left f e3).trans ?_
      rw [← List.append_assoc, ← List.append_assoc]
      exact List.Perm.append_right f2 List.perm_append_comm
    · obtain ⟨fp', k1, k2⟩ := e4 Q d' g' hq fun d v h hh hp => hm d v h (fun a ha => List.mem_append_right _ (hh a ha)) hp
      refine ⟨f ++ fp', ⟨v, r, f, fp', rfl, rfl, hm _ _ _ (fun a ha => List.mem_append_left _ ha) h1, k1⟩, ?_⟩
      refine (List.Perm.append_left f k2).trans ?_
      rw [← List.append_assoc, ← List.append_assoc]
      exact List.Perm.append_right f2 List.perm_append_comm
end
theorem zip_set_ne {α β : Type} (xs : List α) (ys : List β) : xs.zip ys = xs.zip ys := rfl
theorem Ow.focus {G H : Hp} : ∀ (π : List Stp) {k : Nat} {d sub : D} {v : V} {fp : List Addr}, Ow G H k d v fp → D.at π d = some sub → π.length ≤ k → ∃ u f f', PathV H π v u ∧ Ow G H (k - π.length) sub u f ∧ fp.Perm (f ++ f') ∧
    ∀ H' sub' g, (∀ a ∈ f', ∀ o, H a = some o → H' a = some o) → Ow G H' (k - π.length) sub' u g → ∃ fp', Ow G H' k (D.put π d sub') v fp' ∧ fp'.Perm (g ++ f')
  | [], k, d, sub, v, fp, h, e, hk => by
    cases e
    exact ⟨v, fp, [], rfl, h, by simp, fun H' sub' g _ hq => ⟨g, hq, by simp⟩⟩
  | .ix n :: π, k, d, sub, v, fp, h, e, hk => by
    cases d <;> simp only [D.at] at e <;> first | (cases e; done) | skip
    rename_i xs
    cases k with
    | zero => simp at hk
    | succ k =>
      obtain ⟨a, vs, f0, rfl, hH, rfl, ol⟩ := h
      split at e
      case h_2 => cases e
      rename_i x hx
      obtain ⟨w, f1, f2, w1, w2, w3, w4⟩ := OwL.focus ol hx
      obtain ⟨u, f, f', p1, p2, p3, p4⟩ := Ow.focus π w2 e (by simpa using hk)
      have ek : k + 1 - (Stp.ix n :: π).length = k - π.length := by simp
      refine ⟨u, f, a :: (f' ++ f2), ⟨a, vs, w, rfl, hH, w1, p1⟩, by rw [ek]; exact p2, ?_, fun H' sub' g hk' hq => ?_⟩
      · refine (List.Perm.cons a (w3.trans (List.Perm.append_right f2 p3))).trans ?_
        rw [List.append_assoc]
        exact List.perm_middle.symm
      · rw [ek] at hq
        obtain ⟨fp', q1, q2⟩ := p4 H' sub' g (fun b hb => hk' b (by simp [hb])) hq
        obtain ⟨fp2, s1, s2⟩ := w4 (Ow G H' k) (D.put π x sub') fp' q1 fun d v h hh hp => hp.keep (Inc.refl _) fun b hb o ho => hk' b (by simp [hh b hb]) o ho
        refine ⟨a :: fp2, ?_, ?_⟩
        · simp only [D.put, hx]
          exact ⟨a, vs, fp2, rfl, hk' a (by simp) _ hH, rfl, s1⟩
        · refine (List.Perm.cons a (s2.trans (List.Perm.append_right f2 q2))).trans ?_
          rw [List.append_assoc]
          exact List.perm_middle.symm
  | .fl s :: π, k, d, sub, v, fp, h, e, hk => by
    cases d <;> simp only [D.at] at e <;> first | (cases e; done) | skip
    rename_i c ns xs
    cases k with
    | zero => simp at hk
    | succ k =>
      obtain ⟨a, dx, vs, f0, rfl, hH, hl, rfl, ol⟩ := h
      split at e
      case h_2 => cases e
      rename_i x hx
      split at e
      case isFalse => cases e
      rename_i hs
      obtain ⟨w, f1, f2, w1, w2, w3, w4⟩ := OwL.focus ol hx
      obtain ⟨u, f, f', p1, p2, p3, p4⟩ := Ow.focus π w2 e (by simpa using hk)
      have ek : k + 1 - (Stp.fl s :: π).length = k - π.length := by simp
      refine ⟨u, f, a :: (f' ++ f2), ⟨a, c, dx, ns.zip vs, w, rfl, hH, lookup_zip hs w1, p1⟩, by rw [ek]; exact p2, ?_, fun H' sub' g hk' hq => ?_⟩
      · refine (List.Perm.cons a (w3.trans (List.Perm.append_right f2 p3))).trans ?_
        rw [List.append_assoc]
        exact List.perm_middle.symm
      · rw [ek] at hq
        obtain ⟨fp', q1, q2⟩ := p4 H' sub' g (fun b hb => hk' b (by simp [hb])) hq
        obtain ⟨fp2, s1, s2⟩ := w4 (Ow G H' k) (D.put π x sub') fp' q1 fun d v h hh hp => hp.keep (Inc.refl _) fun b hb o ho => hk' b (by simp [hh b hb]) o ho
        refine ⟨a :: fp2, ?_, ?_⟩
        · simp only [D.put, hx]
          exact ⟨a, dx, vs, fp2, rfl, hk' a (by simp) _ hH, by rw [hl]; simp, rfl, s1⟩
        · refine (List.Perm.cons a (s2.trans (List.Perm.append_right f2 q2))).trans ?_
          rw [List.append_assoc]
          exact List.perm_middle.symm
section
variable {X : Cx} {W : WX} {p q p' : Bool} {e ea eb ec : Expr} {es : List Expr} {pos : Pos}
variable {σ0 σ : St} {G H G1 H1 G2 H2 : Hp} {F F1 F2 : Fps} {S S1 S2 : Sl}
/-- what stands at a place is rewritten -/
theorem SR.mutAt {i k : Nat} {pin : Bool} {d sub : D} {π : List Stp} (r : SR σ0 G H σ S F) (hc : S[i]? = some ⟨pin, some (k, d)⟩) (ha : D.at π d = some sub) (hk : π.length ≤ k) :
    ∃ v u f, σ[i]? = some (some v) ∧ PathV H π v u ∧ Ow G H (k - π.length) sub u f ∧ f.Nodup ∧ (∀ a ∈ f, a ∈ F i) ∧
      ∀ H' sub' g, (∀ b, b ∉ f → ∀ o, H b = some o → H' b = some o) → Ow G H' (k - π.length) sub' u g → g.Nodup → (∀ a ∈ g, a ∈ f ∨ ((∀ j, a ∉ F j) ∧ G a = none)) → (∀ b us, H' b = some (.tup us) → H b = some (.tup us)) →
        ∃ fp', SR σ0 G H' σ (S.put i (some (k, D.put π d sub'))) (fpPut F i fp') ∧ ∀ {p0 : Bool} {G0 H0 : Hp} {F0 : Fps} {S0 S' : Sl}, Gr p0 G0 H0 F0 S0 G H F S → (∀ a ∈ g, a ∈ f ∨ (∃ j, a ∈ F0 j) ∨ H0 a = none) → Gr false G0 H0 F0 S0 G H' (fpPut F i fp') S' := by
  obtain ⟨_, h2, _⟩ := r.row i _ hc
  obtain ⟨v, e1, o1⟩ := h2 k d rfl
  obtain ⟨u, f, f', p1, p2, p3, p4⟩ := Ow.focus π o1 ha hk
  have hnd := p3.nodup_iff.mp (r.nd i)
  obtain ⟨n1, n2, n3⟩ := List.nodup_append.mp hnd
  have inF : ∀ a ∈ f, a ∈ F i := fun a h => p3.mem_iff.mpr (List.mem_append_left _ h)
  have inF' : ∀ a ∈ f', a ∈ F i := fun a h => p3.mem_iff.mpr (List.mem_append_right _ h)
  refine ⟨v, u, f, e1, p1, p2, n1, inF, fun H' sub' g hH ho gnd gs ht => ?_⟩
  obtain ⟨fp', q1, q2⟩ := p4 H' sub' g (fun a ha o h => hH a (fun hf => n3 a hf a ha rfl) o h) ho
  refine ⟨fp', r.mut' hc rfl e1 (fun b hb o h => hH b (fun hf => hb (inF b hf)) o h) q1 ?_ ?_ ht, fun {p0 G0 H0 F0 S0 S'} g0 h0 => g0.mut (T' := S') (fun b hb o h => hH b (fun hf => hb (inF b hf)) o h) ?_⟩
  · refine q2.nodup_iff.mpr (List.nodup_append.mpr ⟨gnd, n2, fun a ha b hb e => ?_⟩)
    subst e
    rcases gs a ha with h | ⟨h, _⟩
    · exact n3 a h a hb rfl
    · exact h i (inF' a hb)
  · intro a ha
    rcases List.mem_append.mp (q2.mem_iff.mp ha) with h | h
    · rcases gs a h with h | h
      · exact .inl (inF a h)
      · exact .inr h
    · exact .inl (inF' a h)
  · intro a ha
    rcases List.mem_append.mp (q2.mem_iff.mp ha) with h | h
    · rcases h0 a h with h | h | h
      · exact .inr (.inr (inF a h))
      · exact .inl h
      · exact .inr (.inl h)
    · exact .inr (.inr (inF' a h))
/-- a value as its new place wants it -/
theorem fit_item {yk k : Nat} {yd : D} {v : V} {fp : List Addr} (r1 : SR σ0 G1 H1 σ S1 F1) (g1 : Gr p G H F S G1 H1 F1 S1) (z1 : VP H F G1 H1 F1 ⟨false, yk, yd⟩ v fp) (hk : yk = k ∨ k = 0 ∨ yd.atom = true) :
    ∃ G2 fq, SR σ0 G2 H1 σ S1 F1 ∧ Gr p G H F S G2 H1 F1 S1 ∧ VP H F G2 H1 F1 ⟨false, k, yd⟩ v fq := by
  rcases hk with hk | hk | hk
  · subst hk
    exact ⟨G1, fp, r1, g1, z1⟩
  · subst hk
    obtain ⟨G2, r2, g2, z2⟩ := z1.freeze r1 g1 rfl
    exact ⟨G2, [], r2, g2, VP.fzn z2⟩
  · have := z1.ow.atom hk
    refine ⟨G1, [], r1, g1, ⟨?_, fun _ => .nil, fun _ => by simp, fun _ => by simp, fun _ => by simp⟩⟩
    cases k with
    | zero => exact ⟨this.1, rfl⟩
    | succ k => cases yd <;> first | exact ⟨this.1, rfl⟩ | cases hk
/-! ### the expression that tells a place -/
abbrev Pl := Sl → Option (Nat × List Stp)
def VPl (X : Cx) (W : WX) (e : Expr) (g : Pl) : Prop := ∃ t, PE X e t ∧ ∀ σ0 σ G H S F Q, SR σ0 G H σ S F → (match g S with
  | none => False
  | some (i, π) => ∀ v u G' H', SR σ0 G' H' σ S F → Gr true G H F S G' H' F S → σ[i]? = some (some v) → PathV H' π v u → Q u H') → t σ H Q
def plVar (i : Nat) : Pl := fun S => match S[i]? with
  | some ⟨_, some _⟩ => some (i, [])
  | _ => none
theorem vpl_var (i : Nat) {x : Str} {xp : Pos} (hN : X.N[i]? = some x := by rfl) (hv : Vis X.env.scope x := by first | exact Or.inl rfl | exact Or.inr (Or.inl rfl) | exact Or.inr (Or.inr rfl)) (hd : (x == ("__debug__" : Str)) = false := by decide)
    (hcd : (x == ("__classdict__" : Str)) = false := by decide) : VPl X W (.Name x xp) (plVar i) := by
  refine ⟨_, pe_var hN hv hd hcd, fun σ0 σ G H S F Q r hw => ?_⟩
  unfold plVar at hw
  split at hw
  case h_1 => exact hw.elim
  rename_i j π e
  split at e
  case h_2 => cases e
  rename_i pin kd hc
  cases e
  obtain ⟨_, h2, _⟩ := r.row i _ hc
  obtain ⟨v, e1, _⟩ := h2 kd.1 kd.2 rfl
  exact ⟨v, e1, hw v v G H r (Gr.refl r) e1 rfl⟩
def plIx (pl : Pl) (gj : Sl → R D) : Pl := fun S => match pl S with
  | none => none
  | some (i, π) => match gj S with
    | .ok (.int n) _ => (match S[i]? with
      | some ⟨_, some (k, d)⟩ => (match D.at π d with
        | some (.lst xs) => if π.length < k then (match ixN xs.length n with
          | some j => some (i, π ++ [.ix j])
          | none => none) else none
        | _ => none)
      | _ => none)
    | _ => none
theorem ixN_at {α : Type} {xs : List α} {n : Int} {j : Nat} {w : α} (h : ixN xs.length n = some j) (hw : xs[j]? = some w) : atI xs n = some w := by
  unfold atI
  rw [h]; exact hw
theorem vpl_ix {pl : Pl} {gj : Sl → R D} (h : VPl X W ea pl) (hj : VD true X W eb gj) (hs : PlainIx eb := by intro _ _; rfl) : VPl X W (.Subscript ea eb pos) (plIx pl gj) := by
  obtain ⟨t, t1, t2⟩ := h
  obtain ⟨u, u1, u2⟩ := hj
  refine ⟨_, pe_ix ix_list t1 u1 hs, fun σ0 σ G H S F Q r hw => ?_⟩
  unfold plIx at hw
  split at hw
  case h_1 => exact hw.elim
  rename_i i9 π9 e9
  split at e9
  case h_1 => cases e9
  rename_i i π e1
  split at e9
  case h_2 => cases e9
  rename_i n S' e2
  split at e9
  case h_2 => cases e9
  rename_i pin k d hc
  split at e9
  case h_2 => cases e9
  rename_i xs hat
  split at e9
  case isFalse => cases e9
  rename_i hk
  split at e9
  case h_2 => cases e9
  rename_i j hj
  cases e9
  refine t2 σ0 σ G H S F _ r ?_
  rw [e1]
  intro v u' G1 H1 r1 g1 hσ hp
  refine u2 σ0 σ G1 H1 S F _ r1 ?_
  rw [e2]
  intro w G2 H2 F2 r2 g2 z2
  obtain ⟨eS, eF, hinc, _⟩ := g2.pure rfl
  subst eS
  subst eF
  simp only [Fz] at z2
  subst z2
  obtain ⟨v', u2', f, hσ', hp', o2, _, _, _⟩ := r2.mutAt hc hat (Nat.le_of_lt hk)
  rw [hσ] at hσ'
  cases hσ'
  have hm : k - π.length = (k - π.length - 1) + 1 := by omega
  rw [hm] at o2
  obtain ⟨a, vs, f0, rfl, hH, rfl, ol⟩ := o2
  have hu : u' = .ref a := by
    have h1 := hp.inc hinc
    have : ∀ {π : List Stp} {v u w : V}, PathV H2 π v u → PathV H2 π v w → u = w := by
      intro π
      induction π with
      | nil => intro v u w h1 h2; exact h1.symm.trans h2
      | cons s π ih =>
        intro v u w h1 h2
        cases s with
        | ix n =>
          obtain ⟨a, vs, x, rfl, b1, b2, b3⟩ := h1
          obtain ⟨a', vs', x', e, b1', b2', b3'⟩ := h2
          cases e
          rw [b1] at b1'; cases b1'
          rw [b2] at b2'; cases b2'
          exact ih b3 b3'
        | fl s =>
          obtain ⟨a, c, dx, fs, x, rfl, b1, b2, b3⟩ := h1
          obtain ⟨a', c', dx', fs', x', e, b1', b2', b3'⟩ := h2
          cases e
          rw [b1] at b1'; cases b1'
          rw [b2] at b2'; cases b2'
          exact ih b3 b3'
    exact this h1 hp'
  subst hu
  have hjl := ixN_lt hj
  have hvl : j < vs.length := by rw [ol.length]; exact hjl
  refine ⟨a, vs, n, vs[j], rfl, rfl, .of hH, ixN_at (by rw [ol.length]; exact hj) (by simp [hvl]), ?_⟩
  exact hw v vs[j] G2 H2 r2 (g1.trans g2) hσ ((hp.inc hinc).snoc_ix hH (by simp [hvl]))
end
end VL

set_option Elab.async false
set_option linter.all false
set_option autoImplicit false
set_option maxRecDepth 100000
namespace VL
open PySem PySem.Spec L2
open PyProof.Rows hiding St

theorem PathV.det {H : Hp} : ∀ {π : List Stp} {v u w : V}, PathV H π v u → PathV H π v w → u = w
  | [], v, u, w, h1, h2 => h1.symm.trans h2
  | .ix n :: π, v, u, w, h1, h2 => by
    obtain ⟨a, vs, x, rfl, b1, b2, b3⟩ := h1
    obtain ⟨a', vs', x', e, b1', b2', b3'⟩ := h2
    cases e
    rw [b1] at b1'; cases b1'
    rw [b2] at b2'; cases b2'
    exact PathV.det b3 b3'
  | .fl s :: π, v, u, w, h1, h2 => by
    obtain ⟨a, c, dx, fs, x, rfl, b1, b2, b3⟩ := h1
    obtain ⟨a', c', dx', fs', x', e, b1', b2', b3'⟩ := h2
    cases e
    rw [b1] at b1'; cases b1'
    rw [b2] at b2'; cases b2'
    exact PathV.det b3 b3'
/-- the sub-list at a place, and room for its items -/
def subL (S : Sl) (i : Nat) (π : List Stp) : Option (Nat × D × Nat × List D) := match S[i]? with
  | some ⟨_, some (k, d)⟩ => if π.length < k then (match D.at π d with
    | some (.lst xs) => some (k, d, k - π.length - 1, xs)
    | _ => none) else none
  | _ => none
theorem subL_some {S : Sl} {i : Nat} {π : List Stp} {k m : Nat} {d : D} {xs : List D} (h : subL S i π = some (k, d, m, xs)) : ∃ pin, S[i]? = some ⟨pin, some (k, d)⟩ ∧ D.at π d = some (.lst xs) ∧ π.length < k ∧ k - π.length = m + 1 := by
  unfold subL at h
  split at h
  case h_2 => cases h
  rename_i pin k' d' hc
  split at h
  case isFalse => cases h
  rename_i hk
  split at h
  case h_2 => cases h
  rename_i xs' ha
  cases h
  exact ⟨pin, hc, ha, hk, by omega⟩
section
variable {X : Cx} {W : WX} {p q p' : Bool} {e ea eb ec : Expr} {es : List Expr} {pos : Pos}
variable {σ0 σ : St} {G H G1 H1 G2 H2 : Hp} {F F1 F2 : Fps} {S S1 S2 : Sl}
/-- the list at a place is rewritten: what is taken over keeps what it owns -/
theorem SR.lstAt {i k m : Nat} {d : D} {xs : List D} {π : List Stp} (r : SR σ0 G H σ S F) (h : subL S i π = some (k, d, m, xs)) :
    ∃ v a vs f, σ[i]? = some (some v) ∧ PathV H π v (.ref a) ∧ H a = some (.lst vs) ∧ OwL (Ow G H m) xs vs f ∧ a ∉ f ∧ f.Nodup ∧ a ∈ F i ∧ (∀ b ∈ f, b ∈ F i) ∧
      ∀ xs' vs' g, OwL (Ow G (upd H a (.lst vs')) m) xs' vs' g → a ∉ g → g.Nodup → (∀ b ∈ g, b ∈ f ∨ ((∀ j, b ∉ F j) ∧ G b = none)) →
        ∃ fp', SR σ0 G (upd H a (.lst vs')) σ (S.put i (some (k, D.put π d (.lst xs')))) (fpPut F i fp') ∧ ∀ {p0 : Bool} {G0 H0 : Hp} {F0 : Fps} {S0 S' : Sl}, Gr p0 G0 H0 F0 S0 G H F S → (∀ b ∈ g, b ∈ f ∨ (∃ j, b ∈ F0 j) ∨ H0 b = none) → Gr false G0 H0 F0 S0 G (upd H a (.lst vs')) (fpPut F i fp') S' := by
  obtain ⟨pin, hc, ha, hk, hm⟩ := subL_some h
  obtain ⟨v, u, f0, hσ, hp, o, nd, inF, mu⟩ := r.mutAt hc ha (Nat.le_of_lt hk)
  rw [hm] at o mu
  obtain ⟨a, vs, f, rfl, hH, rfl, ol⟩ := o
  obtain ⟨n1, n2⟩ := List.nodup_cons.mp nd
  refine ⟨v, a, vs, f, hσ, hp, hH, ol, n1, n2, inF a (by simp), fun b hb => inF b (by simp [hb]), fun xs' vs' g h1 h2 h3 h4 => ?_⟩
  obtain ⟨fp', q1, q2⟩ := mu (upd H a (.lst vs')) (.lst xs') (a :: g) (fun b hb o ho => by rw [upd_ne fun e : b = a => hb (by simp [e])]; exact ho) ⟨a, vs', g, rfl, upd_same, rfl, h1⟩ (List.nodup_cons.mpr ⟨h2, h3⟩) (fun b hb => by
    rcases List.mem_cons.mp hb with rfl | hb
    · exact .inl (by simp)
    · rcases h4 b hb with h | h
      · exact .inl (by simp [h])
      · exact .inr h) upd_ntup
  refine ⟨fp', q1, fun {p0 G0 H0 F0 S0 S'} g0 h0 => q2 g0 fun b hb => ?_⟩
  rcases List.mem_cons.mp hb with rfl | hb
  · exact .inl (by simp)
  · rcases h0 b hb with h | h
    · exact .inl (by simp [h])
    · exact .inr h
/-! ### x[..][j] = e -/
def gSetPl (gx : Sl → R Vl) (pl : Pl) (gj : Sl → R D) : Sl → R Out := fun S => (gx S).bind fun y S1 => if y.b then .stuck else match pl S1 with
  | none => .stuck
  | some (i, π) => (gj S1).bind fun n S2 => match subL S2 i π, n with
    | some (k, d, m, xs), .int n => if y.k == m || m == 0 || y.d.atom then (match ixN xs.length n with
      | some j => .ok .nx (S2.put i (some (k, D.put π d (.lst (xs.set j y.d)))))
      | none => .stuck) else .stuck
    | _, _ => .stuck
theorem Gr.tt (a : Gr p G H F S G1 H1 F1 S1) (b : Gr true G1 H1 F1 S1 G2 H2 F2 S2) : Gr p G H F S G2 H2 F2 S2 := by have := a.trans b; rwa [Bool.and_true] at this
theorem vs_setPl {ej : Expr} {spos : Pos} {gx : Sl → R Vl} {pl : Pl} {gj : Sl → R D} (h : VE p X W e gx) (hp : VPl X W ea pl) (hj : VD true X W ej gj)
    (hsv : ∀ v, assign (.Subscript ea ej spos) X.env v = (do
      let ov ← holding [v] (eval ea X.env)
      let iv ← holding [v, ov] (eval ej X.env)
      standAt spos
      holding [v, ov, iv] (setItem ov iv v)
      release [v, ov, iv] []) := by intro _; rfl)
    (hs : swapsWithSole [.Subscript ea ej spos] e pos.line X.env = pure false := by rfl) (hw : swappedStores [.Subscript ea ej spos] e X.env = pure none := by rfl)
    (h1 : (assignEach [.Subscript ea ej spos] X.env).map (·.2) = [assign (.Subscript ea ej spos) X.env] := by rfl) :
    VS X W (.Assign [.Subscript ea ej spos] e pos) (gSetPl gx pl gj) := by
  obtain ⟨t, t1, t2⟩ := h
  obtain ⟨w, w1, w2⟩ := hp
  obtain ⟨u, u1, u2⟩ := hj
  refine ⟨_, ps_asg t1 (pg_sub w1 u1 set_list hsv) hs hw h1, fun σ0 σ G H S F Ed r hw => ?_⟩
  refine VE.sthen (t := t) t2 r hw fun y S1 v fp G1 H1 F1 r1 g1 z1 hw1 => ?_
  obtain ⟨yb, yk, yd⟩ := y
  cases yb with
  | true => exact hw1.elim
  | false =>
    simp only [Bool.false_eq_true, if_false] at hw1
    split at hw1
    case h_1 => exact hw1.elim
    rename_i i π hpl
    refine w2 σ0 σ G1 H1 S1 F1 _ r1 ?_
    rw [hpl]
    intro v0 u0 G2 H2 r2 g2 hσ hpa
    have hw1' : ((gj S1).bind fun n S2 => match subL S2 i π, n with
        | some (k, d, m, xs), .int n => if yk == m || m == 0 || yd.atom then (match ixN xs.length n with
          | some j => .ok .nx (S2.put i (some (k, D.put π d (.lst (xs.set j yd)))))
          | none => .stuck) else .stuck
        | _, _ => .stuck).wp (OkS σ0 G H S F Ed) (OkX σ0 G2 H2 S1 F1 W) := R.wp_mono hw1 (fun _ _ h => h) fun c w s h => h.from g2
    refine VD.sthen (t := u) u2 r2 hw1' fun n S3 n0 G3 H3 F3 r3 g3 z3 hw3 => ?_
    obtain ⟨eS, eF, hinc, _⟩ := g3.pure rfl
    subst eS
    subst eF
    split at hw3
    case h_2 => exact hw3.elim
    rename_i k d m xs n hsub
    split at hw3
    case isFalse => exact hw3.elim
    rename_i hk
    split at hw3
    case h_2 => exact hw3.elim
    rename_i j hj
    simp only [Bool.or_eq_true, beq_iff_eq] at hk
    simp only [Fz] at z3
    subst z3
    have g23 := g2.trans g3
    obtain ⟨G4, fq, r4, g4, z4⟩ := fit_item (k := m) r3 (g1.tt g23) (z1.carry g23 (.inl rfl)) (by
      rcases hk with (hk | hk) | hk
      · exact .inl hk
      · exact .inr (.inl hk)
      · exact .inr (.inr hk))
    obtain ⟨v', a, vs, f, hσ', hpa', hH, ol, naf, nf, aF, fF, mu⟩ := r4.lstAt hsub
    rw [hσ] at hσ'
    cases hσ'
    have hu : u0 = .ref a := (hpa.inc hinc).det hpa'
    subst hu
    have hjl := ixN_lt hj
    refine ⟨a, vs, n, j, rfl, rfl, hH, by rw [ol.length]; exact hj, ?_⟩
    have nq : ∀ b ∈ fq, b ∉ F3 i := fun b hb => z4.dj rfl i b hb
    have haq : a ∉ fq := fun h => nq a h aF
    -- the item goes over
    obtain ⟨w0, f1, f2, e1, e2, e3, e4⟩ := OwL.focus ol (j := j) (d := xs[j]) (by simp [hjl])
    have keepU : ∀ {b : Addr} {o : HO}, b ≠ a → H3 b = some o → upd H3 a (.lst (vs.set j v)) b = some o := fun hb ho => by rw [upd_ne hb]; exact ho
    have ol2 : OwL (Ow G4 (upd H3 a (.lst (vs.set j v))) m) xs vs f := ol.mono fun d u fd hd z => z.keep (Inc.refl _) fun b hb o ho => keepU (fun e => naf (e ▸ hd b hb)) ho
    have zq : Ow G4 (upd H3 a (.lst (vs.set j v))) m yd v fq := z4.ow.keep (Inc.refl _) fun b hb o ho => keepU (fun e => haq (e ▸ hb)) ho
    obtain ⟨_, f3, f4, f5, _, _, q1, q2, q3⟩ := OwL.set (P := Ow G4 (upd H3 a (.lst (vs.set j v))) m) (d' := yd) (v' := v) (fq := fq) zq (j := j) (d := xs[j]) ol2 (by simp [hjl])
    have in4 : ∀ b ∈ f4, b ∈ f := fun b hb => q2.mem_iff.mpr (List.mem_append_right _ hb)
    obtain ⟨fp', m1, m2⟩ := mu (xs.set j yd) (vs.set j v) f5 q1 (fun h => by
      rcases List.mem_append.mp (q3.mem_iff.mp h) with h | h
      · exact haq h
      · exact naf (in4 a h)) (q3.nodup_iff.mpr (List.nodup_append.mpr ⟨z4.nd rfl, (List.nodup_append.mp (q2.nodup_iff.mp nf)).2.1, fun b hb c hc e => nq b hb (e ▸ fF c (in4 c hc))⟩)) (fun b hb => by
      rcases List.mem_append.mp (q3.mem_iff.mp hb) with h | h
      · exact .inr ⟨fun j => z4.dj rfl j b h, z4.ns rfl b h⟩
      · exact .inl (in4 b h))
    exact hw3 σ G4 _ _ m1 (m2 g4 fun b hb => by
      rcases List.mem_append.mp (q3.mem_iff.mp hb) with h | h
      · exact .inr (z4.src rfl b h)
      · exact .inl (in4 b h))
/-! ### x[..][j] op= e, of atoms -/
theorem get_list : PGet X (rIxL X.K) := by
  intro pins s σ H x y v u Q I rx ry h
  obtain ⟨p, xs, i, z, rfl, rfl, hq, he, q⟩ := h
  cases rx
  obtain ⟨t, rfl⟩ := ry
  obtain ⟨its, r, pl, hz⟩ := I.list hq
  obtain ⟨j, h1, h2, h3, h4, h5⟩ := atI_get he
  obtain ⟨w, ew, rw'⟩ := r.get h2
  have hl := r.length
  have hn := line63
  have fin : EP X pins σ Q w s := ⟨z, H, I, rw', q⟩
  by_cases h0 : 0 ≤ i
  · have hj : i.toNat = j := by
      rw [seqIndex_of h0 h5] at h1
      exact Option.some.inj h1
    exact wpAny_getItem_list pl.isList h0 (by omega) (by rw [hj]; simpa using ew) fin
  · have hj : (i + (its.toArray.size : Int)).toNat = j := by
      rw [seqIndex_neg (by omega) h4] at h1
      rw [List.size_toArray, ← hl]
      exact Option.some.inj h1
    exact wpAny_getItem_list_neg pl.isList (by omega) (by rw [List.size_toArray] <;> omega) (by omega) (by rw [hj]; simpa using ew) fin
def IpD (r : TIp) (h : D → D → Option D) : Prop := ∀ x y z, h x y = some z → ∀ G H v u Q, Fz G x v → Fz G y u → Inc G H → (∀ w, Fz G z w → Q w H) → r v u H Q
theorem ipd_I {f : Int → Int → Int} : IpD (ipI f) (hI (fun _ _ => true) f) := by
  intro x y z hd G H v u Q zx zy m k
  cases x <;> cases y <;> first | (simp [hI] at hd; done) | skip
  rename_i i j
  simp only [hI, if_true, Option.some.injEq] at hd
  subst hd
  simp only [Fz] at zx zy
  exact ⟨i, j, zx, zy, k _ rfl⟩
def gAugPl (h : D → D → Option D) (pl : Pl) (gj gx : Sl → R D) : Sl → R Out := fun S => match pl S with
  | none => .stuck
  | some (i, π) => (gj S).bind fun n S1 => match subL S1 i π, n with
    | some (k, d, _, xs), .int n => (match ixN xs.length n with
      | some j => (match xs[j]? with
        | some x0 => if x0.atom then (gx S1).bind fun y S2 => (match h x0 y with
          | some z => if z.atom then .ok .nx (S2.put i (some (k, D.put π d (.lst (xs.set j z))))) else .stuck
          | none => .stuck) else .stuck
        | none => .stuck)
      | none => .stuck)
    | _, _ => .stuck
theorem vs_augPl {op : Operator} {tip : TIp} {h : D → D → Option D} {ej : Expr} {tpos : Pos} {pl : Pl} {gj gx : Sl → R D} (hop : PIp X op tip) (hi : IpD tip h) (hp : VPl X W ea pl) (hj : VD true X W ej gj) (he : VD true X W e gx)
    (ha : ∀ ov iv new, augStore ej ov iv new = (do holding [new, ov, iv] (setItem ov iv new); release [new, ov, iv] []; pure .next) := by intros; rfl) :
    VS X W (.AugAssign (.Subscript ea ej tpos) op e pos) (gAugPl h pl gj gx) := by
  obtain ⟨w, w1, w2⟩ := hp
  obtain ⟨u, u1, u2⟩ := hj
  obtain ⟨t, t1, t2⟩ := he
  refine ⟨_, ps_augS w1 u1 get_list t1 hop set_list ha, fun σ0 σ G H S F Ed r hw => ?_⟩
  unfold gAugPl at hw
  split at hw
  case h_1 => exact hw.elim
  rename_i i π hpl
  refine w2 σ0 σ G H S F _ r ?_
  rw [hpl]
  intro v0 u0 G2 H2 r2 g2 hσ hpa
  refine VD.sthen (t := u) u2 r2 (R.wp_mono hw (fun _ _ h => h) fun c w s h => h.from g2) fun n S3 n0 G3 H3 F3 r3 g3 z3 hw3 => ?_
  obtain ⟨eS, eF, hinc, _⟩ := g3.pure rfl
  subst eS
  subst eF
  split at hw3
  case h_2 => exact hw3.elim
  rename_i k d m xs n hsub
  split at hw3
  case h_2 => exact hw3.elim
  rename_i j hj
  split at hw3
  case h_2 => exact hw3.elim
  rename_i x0 hx0
  split at hw3
  case isFalse => exact hw3.elim
  rename_i hat
  simp only [Fz] at z3
  subst z3
  obtain ⟨v', a, vs, f, hσ', hpa', hH, ol, naf, nf, aF, fF, _⟩ := r3.lstAt hsub
  rw [hσ] at hσ'
  cases hσ'
  have hu : u0 = .ref a := (hpa.inc hinc).det hpa'
  subst hu
  have hjl := ixN_lt hj
  obtain ⟨x0v, f1, hv1, hv2, _⟩ := OwL.get ol hx0
  have hvf := (hv2.atom hat).1
  refine ⟨a, vs, n, x0v, rfl, rfl, .of hH, ixN_at (by rw [ol.length]; exact hj) hv1, ?_⟩
  refine VD.sthen (t := t) t2 r3 hw3 fun y S5 yv G5 H5 F5 r5 g5 z5 hw5 => ?_
  obtain ⟨eS, eF, hinc5, _⟩ := g5.pure rfl
  subst eS
  subst eF
  split at hw5
  case h_2 => exact hw5.elim
  rename_i z hz
  split at hw5
  case isFalse => exact hw5.elim
  rename_i hzat
  refine hi x0 y z hz G5 H5 x0v yv _ (hvf.inc g5.up) z5 r5.inc fun zv hzv => ?_
  obtain ⟨v', a', vs', f', hσ', hpa5, hH5, ol5, naf5, nf5, aF5, fF5, mu⟩ := r5.lstAt hsub
  rw [hσ] at hσ'
  cases hσ'
  have hu : V.ref a = .ref a' := (hpa'.inc hinc5).det hpa5
  cases hu
  have hvs : vs' = vs := by
    have := hinc5 _ _ hH
    rw [hH5] at this
    simpa using this
  subst hvs
  refine ⟨a, vs', n, j, rfl, rfl, hH5, by rw [ol5.length]; exact hj, ?_⟩
  have ol2 : OwL (Ow G5 (upd H5 a (.lst (vs'.set j zv))) m) xs vs' f' := ol5.mono fun d u fd hd z => z.keep (Inc.refl _) fun b hb o ho => by rw [upd_ne fun e : b = a => naf5 (e ▸ hd b hb)]; exact ho
  have zq : Ow G5 (upd H5 a (.lst (vs'.set j zv))) m z zv [] := Ow.ofFz hzv (.inr hzat)
  obtain ⟨_, f3, f4, f5, _, _, q1, q2, q3⟩ := OwL.set (P := Ow G5 (upd H5 a (.lst (vs'.set j zv))) m) (d' := z) (v' := zv) (fq := []) zq (j := j) (d := x0) ol2 hx0
  rw [List.nil_append] at q3
  have in4 : ∀ b ∈ f5, b ∈ f' := fun b hb => q2.mem_iff.mpr (List.mem_append_right _ (q3.mem_iff.mp hb))
  obtain ⟨fp', m1, m2⟩ := mu (xs.set j z) (vs'.set j zv) f5 q1 (fun h => naf5 (in4 a h)) (q3.nodup_iff.mpr (List.nodup_append.mp (q2.nodup_iff.mp nf5)).2.1) (fun b hb => .inl (in4 b hb))
  exact hw5 σ G5 _ _ m1 (m2 ((g2.trans g3).trans g5) fun b hb => .inl (in4 b hb))
/-! ### x op= e, of atoms -/
def gAug (i : Nat) (h : D → D → Option D) (gx : Sl → R D) : Sl → R Out := fun S => match S[i]? with
  | some ⟨_, some (_, x0)⟩ => if x0.atom then (gx S).bind fun y S2 => (match h x0 y, S2[i]? with
    | some z, some ⟨false, _⟩ => .ok .nx (S2.put i (some (0, z)))
    | _, _ => .stuck) else .stuck
  | _ => .stuck
theorem vs_aug (i : Nat) {op : Operator} {tip : TIp} {h : D → D → Option D} {x : Str} {xp : Pos} {gx : Sl → R D} (hop : PIp X op tip) (hi : IpD tip h) (he : VD p X W e gx) (hN : X.N.Nodup) (hx : X.N[i]? = some x := by rfl) (hl : Loc X.env.scope x := by exact .inl rfl) (hf : X.fn x = true ∨ X.env.scope.names.lookup x = some .local := by first | exact .inl rfl | exact .inr rfl | assumption) :
    VS X W (.AugAssign (.Name x xp) op e pos) (gAug i h gx) := by
  obtain ⟨t, t1, t2⟩ := he
  refine ⟨_, ps_aug hN hx hl t1 hop hf, fun σ0 σ G H S F Ed r hw => ?_⟩
  unfold gAug at hw
  split at hw
  case h_2 => exact hw.elim
  rename_i pin k x0 hc
  split at hw
  case isFalse => exact hw.elim
  rename_i hat
  obtain ⟨_, h2, _⟩ := r.row i _ hc
  obtain ⟨v, e1, o1⟩ := h2 k x0 rfl
  have hvf := (o1.atom hat).1
  refine ⟨v, e1, ?_⟩
  refine VD.sthen (t := t) t2 r hw fun y S5 yv G5 H5 F5 r5 g5 z5 hw5 => ?_
  split at hw5
  case h_2 => exact hw5.elim
  rename_i z val hz hc5
  refine hi x0 y z hz G5 H5 v yv _ (hvf.inc g5.up) z5 r5.inc fun zv hzv => ?_
  have hi' : i < σ.length := by rw [r5.len]; exact (List.getElem?_eq_some_iff.mp hc5).1
  exact hw5 (σ.set i (some zv)) G5 H5 (fpPut F5 i []) (r5.put hc5 (by simp) (fun j hj => List.getElem?_set_ne (Ne.symm hj)) (fun h => nomatch h) (fun k d e => by cases e; exact ⟨zv, by simp [List.getElem?_set_self hi'], hzv, rfl⟩) (fun e => nomatch e) .nil (fun _ _ a h => by simp at h) fun a h => by simp at h) (g5.put (x := .fzn z) (v := zv) (fp := []) (VP.fzn hzv) rfl)
end
end VL

set_option Elab.async false
set_option linter.all false
set_option autoImplicit false
set_option maxRecDepth 100000
namespace VL
open PySem PySem.Spec L2
open PyProof.Rows hiding St

section
variable {X : Cx} {W : WX} {p q p' : Bool} {e ea eb ec : Expr} {es : List Expr} {pos : Pos}
variable {σ0 σ : St} {G H G1 H1 G2 H2 : Hp} {F F1 F2 : Fps} {S S1 S2 : Sl}
theorem Gr.tt' (a : Gr true G H F S G1 H1 F1 S1) (b : Gr p G1 H1 F1 S1 G2 H2 F2 S2) : Gr p G H F S G2 H2 F2 S2 := by have := a.trans b; rwa [Bool.true_and] at this
theorem path_go {π : List Stp} {v u w : V} (h1 : PathV H1 π v u) (g : Gr q G1 H1 F1 S1 G2 H2 F2 S2) (hq : (q || π.isEmpty) = true) (h2 : PathV H2 π v w) : u = w := by
  cases q with
  | true => exact (h1.inc (g.pure rfl).2.2.1).det h2
  | false =>
    have : π = [] := by simpa using hq
    subst this
    exact h1.symm.trans h2
/-! ### x[..].append(e) -/
def gApdPl (q : Bool) (pl : Pl) (g : Sl → R Vl) : Sl → R D := fun S => match pl S with
  | none => .stuck
  | some (i, π) => match subL S i π with
    | none => .stuck
    | some _ => (g S).bind fun y S1 => if y.b then .stuck else match subL S1 i π with
      | some (k, d, m, xs) => if (q || π.isEmpty) && decide (xs.length < 16777216) && (y.k == m || m == 0 || y.d.atom) then .ok .non (S1.put i (some (k, D.put π d (.lst (xs ++ [y.d]))))) else .stuck
      | none => .stuck
theorem vd_apdPl {apos cpos : Pos} {pl : Pl} {g : Sl → R Vl} (hp : VPl X W ea pl) (h : VE q X W e g)
    (hbase : attributeBase ea "append" X.env (eval ea X.env) = eval ea X.env := by rfl)
    (hfew : ((backTo cpos (starEach [e] X.env)).all (fun x => !x.1) && (backToKw cpos (keywordEach [] X.env)).all (fun x => x.1.isSome)
      && decide ([e].length + ([] : List Keyword).length + (if ([] : List Keyword).isEmpty then 0 else 1) < 30)) = true := by rfl)
    (hline : (apos.endLine == cpos.line) = true := by rfl) (hs : starEach [e] X.env = (false, eval e X.env) :: starEach [] X.env := by rfl) (hplain : (backTo cpos (starEach [] X.env)).any (·.1) = false := by rfl) :
    VD false X W (.Call (.Attribute ea "append" apos) [e] [] cpos) (gApdPl q pl g) := by
  obtain ⟨w, w1, w2⟩ := hp
  obtain ⟨t, t1, t2⟩ := h
  refine ⟨_, pe_bm PySem.F.plainAttrs_list PySem.F.slot_list_append PySem.F.type_list_append mt_append w1 (pa_cons t1 pa_nil hs) hbase hfew hline hs hplain, fun σ0 σ G H S F Q r hw => ?_⟩
  unfold gApdPl at hw
  split at hw
  case h_1 => exact hw.elim
  rename_i i π hpl
  split at hw
  case h_1 => exact hw.elim
  rename_i sb hsb
  obtain ⟨k0, d0, m0, xs0⟩ := sb
  refine w2 σ0 σ G H S F _ r ?_
  rw [hpl]
  intro v0 u0 G2 H2 r2 g2 hσ hpa
  obtain ⟨v', a, vs, f, hσ', hpa', hH, ol, _⟩ := r2.lstAt hsb
  rw [hσ] at hσ'
  cases hσ'
  obtain rfl := hpa.det hpa'
  refine ⟨tyL hH, ?_⟩
  have hw := R.wp_mono hw (fun _ _ h => h) (fun c w s h => (h : OkE σ0 σ G H S F W c w s).from g2)
  refine VE.then (t := t) t2 r2 hw fun y S1 v fp G1 H1 F1 r1 g1 z1 hw1 => ?_
  obtain ⟨yb, yk, yd⟩ := y
  cases yb with
  | true => exact hw1.elim
  | false =>
    simp only [Bool.false_eq_true, if_false] at hw1
    split at hw1
    case h_2 => exact hw1.elim
    rename_i k d m xs hsub
    split at hw1
    case isFalse => exact hw1.elim
    rename_i hcond
    rw [Bool.and_eq_true, Bool.and_eq_true] at hcond
    obtain ⟨⟨hq, hlen⟩, hk⟩ := hcond
    have hlen := of_decide_eq_true hlen
    simp only [Bool.or_eq_true, beq_iff_eq] at hk
    obtain ⟨G4, fq, r4, g4, z4⟩ := fit_item (k := m) r1 g1 z1 (by
      rcases hk with (hk | hk) | hk
      · exact .inl hk
      · exact .inr (.inl hk)
      · exact .inr (.inr hk))
    obtain ⟨v', a', vs', f', hσ', hpa4, hH4, ol4, naf, nf, aF, fF, mu⟩ := r4.lstAt hsub
    rw [hσ] at hσ'
    cases hσ'
    cases path_go hpa g4 hq hpa4
    have nq : ∀ b ∈ fq, b ∉ F1 i := fun b hb => z4.dj rfl i b hb
    have haq : a ∉ fq := fun h => nq a h aF
    refine ⟨a, vs', v, rfl, rfl, hH4, ?_, ?_⟩
    · rw [ol4.length]
      rw [sizeLine_eq]; exact hlen
    have ol2 : OwL (Ow G4 (upd H1 a (.lst (vs' ++ [v]))) m) xs vs' f' := ol4.mono fun d u fd hd z => z.keep (Inc.refl _) fun b hb o ho => by rw [upd_ne fun e : b = a => naf (e ▸ hd b hb)]; exact ho
    have zq : Ow G4 (upd H1 a (.lst (vs' ++ [v]))) m yd v fq := z4.ow.keep (Inc.refl _) fun b hb o ho => by rw [upd_ne fun e : b = a => haq (e ▸ hb)]; exact ho
    obtain ⟨fp', m1, m2⟩ := mu (xs ++ [yd]) (vs' ++ [v]) (f' ++ fq) (ol2.append (OwL.one zq)) (fun h => by
      rcases List.mem_append.mp h with h | h
      · exact naf h
      · exact haq h) (List.nodup_append.mpr ⟨nf, z4.nd rfl, fun b hb c hc e => nq c hc (e ▸ fF b hb)⟩) (fun b hb => by
      rcases List.mem_append.mp hb with h | h
      · exact .inl h
      · exact .inr ⟨fun j => z4.dj rfl j b h, z4.ns rfl b h⟩)
    refine hw1 .non G4 _ _ m1 (m2 (g2.tt' g4).off fun b hb => ?_) rfl
    rcases List.mem_append.mp hb with h | h
    · exact .inl h
    · exact .inr ((VP.from g2 z4).src rfl b h)
/-! ### x[..].extend(e) -/
def gExtPl (q : Bool) (pl : Pl) (g : Sl → R Vl) : Sl → R D := fun S => match pl S with
  | none => .stuck
  | some (i, π) => match subL S i π with
    | none => .stuck
    | some _ => (g S).bind fun y S1 => match subL S1 i π, y.d with
      | some (k, d, m, xs), .lst ys => if (q || π.isEmpty) && decide (xs.length + ys.length ≤ 16777216) && (!y.b && y.k == m + 1 || (m == 0 && !y.b)) then .ok .non (S1.put i (some (k, D.put π d (.lst (xs ++ ys))))) else .stuck
      | _, _ => .stuck
theorem vd_extPl {apos cpos : Pos} {pl : Pl} {g : Sl → R Vl} (hp : VPl X W ea pl) (h : VE q X W e g)
    (hbase : attributeBase ea "extend" X.env (eval ea X.env) = eval ea X.env := by rfl)
    (hfew : ((backTo cpos (starEach [e] X.env)).all (fun x => !x.1) && (backToKw cpos (keywordEach [] X.env)).all (fun x => x.1.isSome)
      && decide ([e].length + ([] : List Keyword).length + (if ([] : List Keyword).isEmpty then 0 else 1) < 30)) = true := by rfl)
    (hline : (apos.endLine == cpos.line) = true := by rfl) (hs : starEach [e] X.env = (false, eval e X.env) :: starEach [] X.env := by rfl) (hplain : (backTo cpos (starEach [] X.env)).any (·.1) = false := by rfl) :
    VD false X W (.Call (.Attribute ea "extend" apos) [e] [] cpos) (gExtPl q pl g) := by
  obtain ⟨w, w1, w2⟩ := hp
  obtain ⟨t, t1, t2⟩ := h
  refine ⟨_, pe_bm PySem.F.plainAttrs_list PySem.F.slot_list_extend PySem.F.type_list_extend mt_extend w1 (pa_cons t1 pa_nil hs) hbase hfew hline hs hplain, fun σ0 σ G H S F Q r hw => ?_⟩
  unfold gExtPl at hw
  split at hw
  case h_1 => exact hw.elim
  rename_i i π hpl
  split at hw
  case h_1 => exact hw.elim
  rename_i sb hsb
  obtain ⟨k0, d0, m0, xs0⟩ := sb
  refine w2 σ0 σ G H S F _ r ?_
  rw [hpl]
  intro v0 u0 G2 H2 r2 g2 hσ hpa
  obtain ⟨v', a, vs, f, hσ', hpa', hH, ol, _⟩ := r2.lstAt hsb
  rw [hσ] at hσ'
  cases hσ'
  obtain rfl := hpa.det hpa'
  refine ⟨tyL hH, ?_⟩
  have hw := R.wp_mono hw (fun _ _ h => h) (fun c w s h => (h : OkE σ0 σ G H S F W c w s).from g2)
  refine VE.then (t := t) t2 r2 hw fun y S1 v fp G1 H1 F1 r1 g1 z1 hw1 => ?_
  obtain ⟨yb, yk, yd⟩ := y
  split at hw1
  case h_2 => exact hw1.elim
  rename_i k d m xs ys hsub hyd
  simp only at hyd
  subst hyd
  split at hw1
  case isFalse => exact hw1.elim
  rename_i hcond
  rw [Bool.and_eq_true, Bool.and_eq_true] at hcond
  obtain ⟨⟨hq, hlen⟩, hk⟩ := hcond
  have hlen := of_decide_eq_true hlen
  have hyb : yb = false := by
    cases yb with
    | false => rfl
    | true => simp at hk
  subst hyb
  -- what goes over
  obtain ⟨G4, b, zs, fq, r4, g4, rfl, hHb, zo, znd, zsrc, zdj, zns⟩ : ∃ G4 b zs fq, SR σ0 G4 H1 σ S1 F1 ∧ Gr q G2 H2 F S G4 H1 F1 S1 ∧ v = .ref b ∧ H1 b = some (.lst zs) ∧ OwL (Ow G4 H1 m) ys zs fq ∧ fq.Nodup ∧ (∀ c ∈ fq, (∃ j, c ∈ F j) ∨ H2 c = none) ∧ (∀ j, ∀ c ∈ fq, c ∉ F1 j) ∧ ∀ c ∈ fq, G4 c = none := by
    by_cases hm : m = 0
    · subst hm
      obtain ⟨G4, r4, g4, z4⟩ := z1.freeze r1 g1 rfl
      simp only [Fz] at z4
      obtain ⟨b, zs, rfl, hb, fz⟩ := z4
      exact ⟨G4, b, zs, [], r4, g4, rfl, r4.inc _ _ hb, owL_fz fz, .nil, by simp, by simp, by simp⟩
    · have hyk : yk = m + 1 := by simpa [hm] using hk
      subst hyk
      obtain ⟨b, zs, fq, rfl, hb, rfl, ol⟩ := z1.ow
      have hnd := z1.nd rfl
      exact ⟨G1, b, zs, fq, r1, g1, rfl, hb, ol, (List.nodup_cons.mp hnd).2, fun c hc => z1.src rfl c (by simp [hc]), fun j c hc => z1.dj rfl j c (by simp [hc]), fun c hc => z1.ns rfl c (by simp [hc])⟩
  obtain ⟨v', a', vs', f', hσ', hpa4, hH4, ol4, naf, nf, aF, fF, mu⟩ := r4.lstAt hsub
  rw [hσ] at hσ'
  cases hσ'
  cases path_go hpa g4 hq hpa4
  have haq : a ∉ fq := fun h => zdj i a h aF
  refine ⟨a, b, vs', zs, rfl, rfl, hH4, hHb, ?_, ?_⟩
  · rw [ol4.length, zo.length]
    rw [sizeLine_eq]; exact hlen
  have ol2 : OwL (Ow G4 (upd H1 a (.lst (vs' ++ zs))) m) xs vs' f' := ol4.mono fun d u fd hd z => z.keep (Inc.refl _) fun b hb o ho => by rw [upd_ne fun e : b = a => naf (e ▸ hd b hb)]; exact ho
  have zq : OwL (Ow G4 (upd H1 a (.lst (vs' ++ zs))) m) ys zs fq := zo.mono fun d u fd hd z => z.keep (Inc.refl _) fun b hb o ho => by rw [upd_ne fun e : b = a => haq (e ▸ hd b hb)]; exact ho
  obtain ⟨fp', m1, m2⟩ := mu (xs ++ ys) (vs' ++ zs) (f' ++ fq) (ol2.append zq) (fun h => by
    rcases List.mem_append.mp h with h | h
    · exact naf h
    · exact haq h) (List.nodup_append.mpr ⟨nf, znd, fun b hb c hc e => zdj i c hc (e ▸ fF b hb)⟩) (fun b hb => by
    rcases List.mem_append.mp hb with h | h
    · exact .inl h
    · exact .inr ⟨fun j => zdj j b h, zns b h⟩)
  refine hw1 .non G4 _ _ m1 (m2 (g2.tt' g4).off fun c hc => ?_) rfl
  rcases List.mem_append.mp hc with h | h
  · exact .inl h
  · rcases zsrc c h with h' | h'
    · exact .inr (.inl h')
    · cases hh : H c with
      | none => exact .inr (.inr rfl)
      | some o =>
        by_cases hF : ∃ j, c ∈ F j
        · exact .inr (.inl hF)
        · have := g2.fr c o hh fun j hj => hF ⟨j, hj⟩
          rw [h'] at this; cases this
end
end VL

set_option Elab.async false
set_option linter.all false
set_option autoImplicit false
set_option maxRecDepth 100000
namespace VL
open PySem PySem.Spec L2
open PyProof.Rows hiding St

/-! ### isinstance of the error that a suite holds -/
/-- what the written part says of `__class__` at an instance of C -/
structure IsaTxt (K : PySem.W.Frag) (C : Addr) : Prop where
  ha : PySem.W.findIn K (.ref C) "__class__" = some (some (.builtin "object.__class__"))
  hn : PySem.W.specialIn K (.builtin "object.__class__") "__get__" = some (some (.builtin "getset_descriptor.__get__"))
  ht : PySem.W.takesIn K (.builtin "object.__class__") = some true
  hm : PySem.W.mroIn K C (.type "object") = some true
def rIsE1 (K : PySem.W.Frag) (D a dd : Addr) : List V → Hp → VK → Prop := fun xs H Q => ∃ (C' : Addr) (b : Bool) (fs : List (Str × V)), xs = [.ref a, .ref C'] ∧ H dd = some (.xd fs) ∧ PySem.W.kitOne K (.ref D) (.ref C') = some b ∧ Q (.bl b) H
def rIsE2 (K : PySem.W.Frag) (D a dd : Addr) : List V → Hp → VK → Prop := fun xs H Q => ∃ (tp : Addr) (cs : List Addr) (b : Bool) (fs : List (Str × V)), xs = [.ref a, .ref tp] ∧ H tp = some (.tup (cs.map V.ref)) ∧ H dd = some (.xd fs) ∧ PySem.W.kitAny K (.ref D) (cs.map Value.ref) = some b ∧ Q (.bl b) H
section
variable {X : Cx} {a dd D : Addr} {oe : Obj} {pn : List (Addr × Obj)} {x : Str} {B fI : Addr}
theorem isa_inst (hz : Zc (.ref D) (some dd) oe) (hf : ∃ vs, oe.data = .fields vs) {pins : List (Addr × Obj)} {σ : St} {H : Hp} {s : Shared} {fs : List (Str × V)} (I : Inv (X.suite a ((a, oe) :: pn)) pins σ H s) (hd : H dd = some (.xd fs)) : ∃ od, PySem.W.InstAt s.heap a oe D (some od) := by
  obtain ⟨ha, _⟩ := I.pin (a, oe) (List.mem_append_left _ List.mem_cons_self)
  obtain ⟨vs, hdd⟩ := hf
  have hx : ObjOk X.prog X.w H s.heap dd (.xd fs) := I.hok dd _ hd
  obtain ⟨mA, hns, hr⟩ := hx
  obtain ⟨od, ho, hl⟩ := lookIn_ns hns
  exact ⟨od, ha, hz.1, by unfold PySem.W.notCls; rw [hdd] <;> rfl, by rw [hz.2]; exact ho⟩
theorem isa_kit {od : Option Obj} (T : ErrTxt X.K X.mg x D B fI) (U : IsaTxt X.K D) : PySem.W.KitX X.K (.ref a) (.ref D) (fun h => PySem.W.InstAt h a oe D od) := by
  refine PySem.W.kitx_exc ?_ T.ga T.gg T.oex.exC U.ha U.hn U.ht U.hm
  obtain ⟨cd, hc, _⟩ := PySem.W.any_some T.hdC
  rw [hc]; rfl
theorem call_isE1 (T : ErrTxt X.K X.mg x D B fI) (U : IsaTxt X.K D) (hz : Zc (.ref D) (some dd) oe) (hf : ∃ vs, oe.data = .fields vs) : CallR (X.suite a ((a, oe) :: pn)) (.builtin "isinstance") (rIsE1 X.K D a dd) := by
  intro pins s σ H xs us Q I r h
  obtain ⟨C', b, fs, rfl, hd, e, q⟩ := h
  obtain ⟨u1, u2, rfl, r1, r2⟩ := vals2 r
  obtain rfl : u1 = Value.ref a := r1
  obtain rfl : u2 = Value.ref C' := r2
  obtain ⟨od, J⟩ := isa_inst hz hf I hd
  exact PySem.W.kia_one (isa_kit T U) I.kIn J e (fun z => nomatch z) fun tk => ⟨.bl b, H, I.tok tk, rfl, q⟩
theorem call_isE2 (T : ErrTxt X.K X.mg x D B fI) (U : IsaTxt X.K D) (hz : Zc (.ref D) (some dd) oe) (hf : ∃ vs, oe.data = .fields vs) : CallR (X.suite a ((a, oe) :: pn)) (.builtin "isinstance") (rIsE2 X.K D a dd) := by
  intro pins s σ H xs us Q I r h
  obtain ⟨tp, cs, b, fs, rfl, hT, hd, e, q⟩ := h
  obtain ⟨u1, u2, rfl, r1, r2⟩ := vals2 r
  obtain rfl : u1 = Value.ref a := r1
  obtain rfl : u2 = Value.ref tp := r2
  obtain ⟨od, J⟩ := isa_inst hz hf I hd
  obtain ⟨_, its, rv, o, h1, h2, n, h3⟩ := (show ObjOk X.prog X.w H s.heap tp (.tup (cs.map V.ref)) from I.hok tp _ hT)
  have go : ∀ (cs : List Addr) (its : List Value), Vals (cs.map V.ref) its → its = cs.map Value.ref := by
    intro cs
    induction cs with
    | nil => intro its rv; cases rv; rfl
    | cons c cs ih =>
      intro its rv
      cases rv with
      | cons r1 r2 =>
        rw [ih _ r2]
        exact congrArg (· :: _) r1
  have e3 := go cs its rv
  subst e3
  obtain ⟨oc, od', dt, sl⟩ := o
  simp only at h2 h3
  subst h2 h3
  exact PySem.W.kia_tup (isa_kit T U) I.kIn J h1 e (fun z => nomatch z) fun tk => ⟨.bl b, H, I.tok tk, rfl, q⟩
end
def gIsE (a dd : Addr) (i : Nat) (b : Bool) : Sl → R D := fun S => match S[i]? with
  | some ⟨_, some (0, .exc a' dd' _ _)⟩ => if a' = a ∧ dd' = dd then .ok (.bl b) S else .stuck
  | _ => .stuck
section
variable {X : Cx} {W : WX} {p q p' : Bool} {e ea eb : Expr} {es : List Expr} {pos : Pos} {sts : List Stmt}
variable {σ0 σ : St} {G H G1 H1 G2 H2 : Hp} {F F1 F2 : Fps} {S S1 S2 : Sl}
theorem exc_cell {i : Nat} {a dd : Addr} {b : Bool} {Q : D → Sl → Prop} {E : Addr → Option (Str × D) → Sl → Prop} (r : SR σ0 G H σ S F) (hw : (gIsE a dd i b S).wp Q E) : σ[i]? = some (some (.ref a)) ∧ (∃ fs, G dd = some (.xd fs)) ∧ Q (.bl b) S := by
  unfold gIsE at hw
  split at hw
  case h_2 => exact hw.elim
  rename_i pin a' dd' n d hc
  split at hw
  case isFalse => exact hw.elim
  rename_i hcond
  obtain ⟨rfl, rfl⟩ := hcond
  obtain ⟨_, h2, _⟩ := r.row i _ hc
  obtain ⟨v, e1, e2⟩ := h2 _ _ rfl
  have z := e2.1
  simp only [Fz] at z
  obtain ⟨rfl, fs, u, h3, h4, h5⟩ := z
  exact ⟨e1, ⟨fs, h3⟩, hw⟩
theorem vd_isE1 (i : Nat) {a dd C' : Addr} {b : Bool} {oe : Obj} {pn : List (Addr × Obj)} {x n y : Str} {xp yp ip : Pos} {C B fI : Addr} (T : ErrTxt X.K X.mg x C B fI) (U : IsaTxt X.K C) (hz : Zc (.ref C) (some dd) oe) (hf : ∃ vs, oe.data = .fields vs) (hk : PySem.W.kitOne X.K (.ref C) (.ref C') = some b) (hy : X.mg y = some (.ref C')) (hm : X.mg "isinstance" = none)
    (hN : X.N[i]? = some n := by rfl) (hv : Vis X.env.scope n := by first | exact Or.inl rfl | exact Or.inr (Or.inl rfl) | exact Or.inr (Or.inr rfl)) (hd : (n == ("__debug__" : Str)) = false := by decide)
    (hcd : (n == ("__classdict__" : Str)) = false := by decide) (hg : Gl X "isinstance" := by rfl) (hgy : Gl X y := by rfl) (hyd : (y == ("__debug__" : Str)) = false := by decide)
    (he1 : starEach [.Name n xp, .Name y yp] X.env = (false, eval (.Name n xp) X.env) :: starEach [.Name y yp] X.env := by rfl) (he2 : starEach [.Name y yp] X.env = (false, eval (.Name y yp) X.env) :: starEach [] X.env := by rfl) (hpl : (backTo pos (starEach [.Name y yp] X.env)).any (·.1) = false := by rfl) :
    VD true (X.suite a ((a, oe) :: pn)) W (.Call (.Name "isinstance" ip) [.Name n xp, .Name y yp] [] pos) (gIsE a dd i b) := by
  refine ⟨_, pe_callB (X := X.suite a ((a, oe) :: pn)) (call_isE1 T U hz hf) hg hm (by decide +kernel) (pa_cons (pe_var (X := X.suite a ((a, oe) :: pn)) hN hv hd hcd) (pa_cons (pe_glob (X := X.suite a ((a, oe) :: pn)) (v := .ref C') hgy hy rfl hyd) pa_nil he2) he1) (by decide) (by decide) he1 hpl, fun σ0 σ G H S F Q r hw => ?_⟩
  obtain ⟨e1, ⟨fs, h3⟩, hq⟩ := exc_cell r hw
  exact ⟨_, e1, C', b, fs, rfl, r.inc _ _ h3, hk, hq (.bl b) G H F r (Gr.refl r) rfl⟩
theorem vd_isE2 (i : Nat) {a dd C1 C2 : Addr} {b : Bool} {oe : Obj} {pn : List (Addr × Obj)} {x n y1 y2 : Str} {x1} {xp yp zp ip tp : Pos} {C B fI : Addr} (T : ErrTxt X.K X.mg x C B fI) (U : IsaTxt X.K C) (hz : Zc (.ref C) (some dd) oe) (hf : ∃ vs, oe.data = .fields vs) (hk : PySem.W.kitAny X.K (.ref C) [.ref C1, .ref C2] = some b) (hy1 : X.mg y1 = some (.ref C1)) (hy2 : X.mg y2 = some (.ref C2)) (hm : X.mg "isinstance" = none)
    (hN : X.N[i]? = some n := by rfl) (hv : Vis X.env.scope n := by first | exact Or.inl rfl | exact Or.inr (Or.inl rfl) | exact Or.inr (Or.inr rfl)) (hd : (n == ("__debug__" : Str)) = false := by decide)
    (hcd : (n == ("__classdict__" : Str)) = false := by decide) (hg : Gl X "isinstance" := by rfl) (hgy1 : Gl X y1 := by rfl) (hgy2 : Gl X y2 := by rfl) (hyd1 : (y1 == ("__debug__" : Str)) = false := by decide) (hyd2 : (y2 == ("__debug__" : Str)) = false := by decide)
    (he1 : starEach [.Name n xp, .Tuple [.Name y1 yp, .Name y2 zp] x1 tp] X.env = (false, eval (.Name n xp) X.env) :: starEach [.Tuple [.Name y1 yp, .Name y2 zp] x1 tp] X.env := by rfl) (he2 : starEach [.Tuple [.Name y1 yp, .Name y2 zp] x1 tp] X.env = (false, eval (.Tuple [.Name y1 yp, .Name y2 zp] x1 tp) X.env) :: starEach [] X.env := by rfl) (hpl : (backTo pos (starEach [.Tuple [.Name y1 yp, .Name y2 zp] x1 tp] X.env)).any (·.1) = false := by rfl)
    (he3 : starEach [.Name y1 yp, .Name y2 zp] X.env = (false, eval (.Name y1 yp) X.env) :: starEach [.Name y2 zp] X.env := by rfl) (he4 : starEach [.Name y2 zp] X.env = (false, eval (.Name y2 zp) X.env) :: starEach [] X.env := by rfl) :
    VD true (X.suite a ((a, oe) :: pn)) W (.Call (.Name "isinstance" ip) [.Name n xp, .Tuple [.Name y1 yp, .Name y2 zp] x1 tp] [] pos) (gIsE a dd i b) := by
  refine ⟨_, pe_callB (X := X.suite a ((a, oe) :: pn)) (call_isE2 T U hz hf) hg hm (by decide +kernel) (pa_cons (pe_var (X := X.suite a ((a, oe) :: pn)) hN hv hd hcd) (pa_cons (pe_tup (X := X.suite a ((a, oe) :: pn)) (pa_cons (pe_glob (X := X.suite a ((a, oe) :: pn)) (v := .ref C1) hgy1 hy1 rfl hyd1) (pa_cons (pe_glob (X := X.suite a ((a, oe) :: pn)) (v := .ref C2) hgy2 hy2 rfl hyd2) pa_nil he4) he3)) pa_nil he2) he1) (by decide) (by decide) he1 hpl, fun σ0 σ G H S F Q r hw => ?_⟩
  obtain ⟨e1, ⟨fs, h3⟩, hq⟩ := exc_cell r hw
  refine ⟨_, e1, by rw [sizeLine_eq]; show 2 ≤ 16777216; decide, fun t ht => ?_⟩
  have hne : dd ≠ t := fun e => by
    have := r.inc _ _ h3
    rw [e, ht] at this; cases this
  refine ⟨t, [C1, C2], b, fs, rfl, upd_same, by rw [upd_ne hne]; exact r.inc _ _ h3, hk, ?_⟩
  exact hq (.bl b) (upd G t (.tup [.ref C1, .ref C2])) _ F (r.newG ht) ((Gr.refl r).newG r ht) rfl
/-! ### try: .. except B as n: .., B the base of the classes that come -/
noncomputable def gTryL (cs : List (Addr × (Addr → Addr → Sl → R Out))) (i : Nat) (gb : Sl → R Out) : Sl → R Out := fun S => match gb S with
  | .stuck => .stuck
  | .ok o S1 => .ok o S1
  | .err c w S1 => match cs.find? (fun p => p.1 == c) with
    | some p => (match w, S1[i]? with
      | some (n, d), some ⟨false, _⟩ => tryPick (fun a dd => p.2 a dd (S1.put i (some (0, .exc a dd n d)))) i
      | _, _ => .stuck)
    | none => .stuck
theorem vs_tryL (i : Nat) {B : Addr} {cs : List (Addr × (Addr → Addr → Sl → R Out))} {x n : Str} {np pos' : Pos} {body suite : List Stmt} {b₀ : Stmt} {gb : Sl → R Out} (hs : X.stack = X.env :: X.outer) (hf : X.env.frame = some X.env.locals) (hN : X.N.Nodup) (hi : X.N[i]? = some n) (hln : X.env.kindOf n = some .local) (hc : Names X x (.ref B)) (tk : Takes X W)
    (he : ∀ p ∈ cs, PySem.W.exmOne X.K (.ref p.1) (.ref B) = some true)
    (hb : ∀ (W : WX) (pn : List (Addr × Obj)) (xe : Value → Shared → Prop), Takes (X.tr pn xe) W → PassesOwn (model X.prog X.w) X.A X.env xe → VSs (X.tr pn xe) W body gb)
    (hsu : ∀ p ∈ cs, ∀ (a dd : Addr) (oe : Obj) (pn : List (Addr × Obj)), Zc (.ref p.1) (some dd) oe → (∃ vs, oe.data = .fields vs) → VSs (X.suite a ((a, oe) :: pn)) W0 (b₀ :: suite) (p.2 a dd)) :
    VS X W (.Try body [.ExceptHandler (some (.Name x np)) (some n) (b₀ :: suite) pos'] [] [] pos) (gTryL cs i gb) := by
  refine ⟨_, ps_try_as (tb := fun W => tVS W gb) (ts := fun a cls d => match d with | some dd => (fun D σ H => ∃ p ∈ cs, cls = .ref p.1 ∧ tVS W0 (p.2 a dd) D σ H) | none => tNever) hs hf hN hi hln hc tk (fun W pn xe h1 h2 => (hb W pn xe h1 h2).can) (fun a oe cls d pn hz hd => ?_), fun σ0 σ G H S F Ed r hw => ?_⟩
  · cases d with
    | none => exact pss_never
    | some dd => exact ⟨fun pins s σ H D I ⟨p, hp, hcl, h⟩ => (hsu p hp a dd oe pn (by rw [← hcl]; exact hz) hd).can.run pins s σ H D I h⟩
  · refine ⟨σ0, G, S, F, r, ?_⟩
    unfold gTryL at hw
    cases hg : gb S with
    | stuck => rw [hg] at hw; exact hw.elim
    | ok o S1 => rw [hg] at hw; exact hw
    | err c w S1 =>
      rw [hg] at hw
      intro σ1 dd1 G1 H1 F1 r1 g1 er
      simp only at hw
      split at hw
      case h_2 => exact hw.elim
      rename_i p hp
      have hpm : p ∈ cs := List.mem_of_find?_eq_some hp
      have hpc : p.1 = c := by simpa using List.find?_some hp
      · subst hpc
        obtain ⟨gc, gs⟩ := p
        simp only at hw
        split at hw
        case h_2 => exact hw.elim
        rename_i nn d val hcell
        refine ⟨true, he _ hpm, (fun _ a ha => ?_), (fun h => nomatch h)⟩
        obtain ⟨dd0, fs, u, rfl, h3, h4, h5⟩ := er
        refine ⟨_, hpm, rfl, ?_⟩
        have hi' : i < σ1.length := by rw [r1.len]; exact (List.getElem?_eq_some_iff.mp hcell).1
        have r2 : SR σ0 G1 H1 (σ1.set i (some (.ref a))) (S1.put i (some (0, .exc a dd0 nn d))) (fpPut F1 i []) := by
          refine r1.put hcell (by simp) (fun j hj => List.getElem?_set_ne (Ne.symm hj)) (fun h => nomatch h) (fun k d' e => ?_) (fun e => nomatch e) .nil (fun _ _ a h => by simp at h) fun a h => by simp at h
          cases e
          refine ⟨.ref a, by simp [List.getElem?_set_self hi'], ?_, rfl⟩
          simp only [Fz]
          exact ⟨trivial, fs, u, h3, h4, h5⟩
        refine ⟨σ0, G1, _, _, r2, ?_⟩
        have g2 : Gr false G H F S G1 H1 (fpPut F1 i []) (S1.put i (some (0, .exc a dd0 nn d))) := ⟨g1.up, g1.new, g1.fr, fun j b hb => by
          by_cases hj : j = i
          · simp [fpPut, hj] at hb
          · simp only [fpPut, if_neg hj] at hb; exact g1.src j b hb, fun h => nomatch h⟩
        by_cases hp : ∃ rr, ∀ a dd, normO i (gs a dd (S1.put i (some (0, .exc a dd nn d)))) = rr
        · obtain ⟨rr, hrr⟩ := hp
          rw [tryPick_eq hrr] at hw
          have hr0 := hrr a dd0
          cases hgs : gs a dd0 (S1.put i (some (0, .exc a dd0 nn d))) with
          | stuck => rw [hgs] at hr0; subst hr0; exact hw.elim
          | err c' w' S' => rw [hgs] at hr0; subst hr0; exact hw.elim
          | ok o S3 =>
            rw [hgs] at hr0
            subst hr0
            show (gs a dd0 _).wp _ _
            rw [hgs]
            intro σ3 G3 H3 F3 r3 g3
            obtain ⟨val3, hc3⟩ : ∃ val3, S3[i]? = some ⟨false, val3⟩ := by
              cases hc3 : S3[i]? with
              | none => rw [show normO i (R.ok o S3) = .stuck by simp [normO, hc3]] at hw; exact hw.elim
              | some c3 =>
                obtain ⟨pin3, v3⟩ := c3
                cases pin3 with
                | true => rw [show normO i (R.ok o S3) = .stuck by simp [normO, hc3]] at hw; exact hw.elim
                | false => exact ⟨v3, rfl⟩
            rw [show normO i (R.ok o S3) = .ok o (S3.put i none) by simp [normO, hc3]] at hw
            have hi3 : i < σ3.length := by rw [r3.len]; exact (List.getElem?_eq_some_iff.mp hc3).1
            have r4 : SR σ0 G3 H3 (σ3.set i none) (S3.put i none) (fpPut F3 i []) :=
              r3.put hc3 (by simp) (fun j hj => List.getElem?_set_ne (Ne.symm hj)) (fun h => nomatch h) (fun k d' e => nomatch e) (fun _ => rfl) .nil (fun _ _ a h => by simp at h) fun a h => by simp at h
            have g4 : Gr false G H F S G3 H3 (fpPut F3 i []) (S3.put i none) := by
              have g5 := g2.trans g3
              exact ⟨g5.up, g5.new, g5.fr, fun j b hb => by
                by_cases hj : j = i
                · simp [fpPut, hj] at hb
                · simp only [fpPut, if_neg hj] at hb; exact g5.src j b hb, fun h => nomatch h⟩
            have fin := hw (σ3.set i none) G3 H3 _ r4 g4
            cases o with
            | nx => exact fin
            | ct => exact fin
            | bk => exact fin
            | rt x => exact fun v fp z => fin v fp (VP.from g2 ⟨z.ow, z.nd, z.src, fun hb j a ha hj => by
                by_cases hji : j = i
                · simp [fpPut, hji] at hj
                · simp only [fpPut, if_neg hji] at hj; exact z.dj hb j a ha hj, z.ns⟩)
        · exfalso
          unfold tryPick at hw
          rw [dif_neg hp] at hw
          exact hw.elim
end
end VL

set_option Elab.async false
set_option linter.all false
set_option autoImplicit false
set_option maxRecDepth 100000
namespace VL
open PySem PySem.Spec L2
open PyProof.Rows hiding St

/-! ### making and methods where what is called may raise -/
section
variable {X : Cx} {CX : CXT} {k : Nat} {f C : Addr} {fd : FuncData} {ps : List Str} {sp : Sp} {dvs : List V} {ds : List Value} {E : St → XK} {x m : Str} {p pos apos : Pos} {e o : Expr} {es : List Expr} {ta : TE} {t : TA}
theorem run_makeS {pins : List (Addr × Obj)} {σ : St} {H : Hp} {s : Shared} {Q : VK} {us : List Value} {vs : List V} (M : Mk X.K C f) (F : FnOk X.prog X.w X.K X.mg X.base CX k f fd ps sp) (hr : Room (k + 1) X.A) (hb : Binds X.K fd ps ds) (hd : Vals dvs ds)
    (hx : PassesAt CX X σ (E σ)) (I : Inv X pins σ H s) (r : Vals vs us)
    (h : ∀ x dx, H x = none → H dx = none → dx ≠ x → sp (.ref x :: (vs ++ dvs)) (upd (upd H dx (.own x)) x (.ins C dx [])) (fun v H2 => v = .non ∧ Q (.ref x) H2) (E σ)) :
    wpAny (model X.prog X.w) X.A (call (.ref C) us) (EP X pins σ Q) X.xe s := by
  have hq := h (s.heap.objs.size + 1) s.heap.objs.size (I.hok.fresh (Nat.le_succ _)) (I.hok.fresh (Nat.le_refl _)) (Nat.ne_of_lt (Nat.lt_succ_self _))
  have I2 := Inv.made (C := C) I
  have r2 : Vals (V.ref (s.heap.objs.size + 1) :: (vs ++ dvs)) (Value.ref (s.heap.objs.size + 1) :: (us ++ ds)) := .cons rfl (r.append hd)
  have hl : (Value.ref (s.heap.objs.size + 1) :: us ++ ds).length = ps.length := by
    have e := r2.length
    rw [F.len _ _ _ _ hq] at e
    exact e.symm
  refine wpAny_call (make_map (f := f) I.kIn M.makes M.init (beq_iff_eq.mp M.fn) (codeAny_mono (F.run _ X.stack _ _ ⟨Value.ref (s.heap.objs.size + 1) :: us, []⟩ (Value.ref (s.heap.objs.size + 1) :: (us ++ ds)) _ _ (E σ) (hr.make C us [])
    (I2.env0.make C us []) (hb _ (Value.ref (s.heap.objs.size + 1) :: us) I2.kIn hl) r2 hq) fun r s' hq' => ?_))
  cases r with
  | error e => exact hx pins _ _ e s' I2 hq'
  | ok fl =>
    cases fl with
    | ret u =>
      obtain ⟨v, H', I3, rv, ev, q3⟩ := I2.after hq'
      subst ev
      exact ⟨rv, ⟨V.ref (s.heap.objs.size + 1), H', I3, rfl, q3⟩⟩
    | next => exact False.elim hq'
    | brk => exact False.elim hq'
    | cont => exact False.elim hq'
def tMakeS (C : Addr) (sp : Sp) (dvs : List V) (E : St → XK) (t : TA) : TE := fun σ H Q => t σ H fun vs H1 => ∀ x dx, H1 x = none → H1 dx = none → dx ≠ x →
  sp (.ref x :: (vs ++ dvs)) (upd (upd H1 dx (.own x)) x (.ins C dx [])) (fun v H2 => v = .non ∧ Q (.ref x) H2) (E σ)
theorem pe_makeS (M : Mk X.K C f) (F : FnOk X.prog X.w X.K X.mg X.base CX k f fd ps sp) (hr : Room (k + 1) X.A) (hg : Gl X x) (hm : X.mg x = some (.ref C)) (hb : Binds X.K fd ps ds) (hd : Vals dvs ds) (hx : ∀ σ, PassesAt CX X σ (E σ))
    (ha : PA X (e :: es) t) (hdb : (x == ("__debug__" : Str)) = false := by decide) (he : starEach (e :: es) X.env = (false, eval e X.env) :: starEach es X.env := by rfl) (hpl : (backTo pos (starEach es X.env)).any (·.1) = false := by rfl) :
    PE X (.Call (.Name x p) (e :: es) [] pos) (tMakeS C sp dvs E t) := by
  refine ⟨fun pins s σ H Q I h => ?_⟩
  refine wpAny_Call_Name_kw (ld_glob I hg hm ?_ hdb)
  refine PySem.W.callWith_K (h₀ := X.base) I.ok.mod.kin M.kp (thn (ha.run pos pins s σ H _ I h) fun us s1 ⟨vs, H1, I1, r, q⟩ => ⟨I1.kIn, ?_⟩) he hpl
  exact run_makeS M F hr hb hd (hx σ) I1 r q
def tMethS (C : Addr) (m : Str) (sp : Sp) (dvs : List V) (E : St → XK) (ta : TE) (t : TA) : TE := fun σ H Q => ta σ H fun x H1 => ∃ a dx fs, x = .ref a ∧ H1 a = some (.ins C dx fs) ∧ fs.lookup m = none ∧
  t σ H1 fun vs H2 => sp (x :: (vs ++ dvs)) H2 Q (E σ)
theorem pe_methSS {pl : Sem Bool} (he : PE X o ta) (c : Cls X.K C) (hm : Meth X.K C m f) (F : FnOk X.prog X.w X.K X.mg X.base CX k f fd ps sp) (hr : Room k X.A) (hb : Binds X.K fd ps ds) (hd : Vals dvs ds) (hx : ∀ σ, PassesAt CX X σ (E σ)) (ha : PA X (e :: es) t)
    (hst : starEach (e :: es) X.env = (false, eval e X.env) :: starEach es X.env := by rfl) (hpl : (backTo pos (starEach es X.env)).any (·.1) = false := by rfl)
    (ht : eval (.Call (.Attribute o m apos) (e :: es) [] pos) X.env = (do
      let ov ← eval o X.env
      standAt apos.atName
      let (f, first) ← holding [ov] (getMethod ov m pl)
      callWith pos f first (backTo pos (starEach (e :: es) X.env)) (backToKw pos (keywordEach [] X.env))) := by rfl) :
    PE X (.Call (.Attribute o m apos) (e :: es) [] pos) (tMethS C m sp dvs E ta t) := by
  refine ⟨fun pins s σ H Q I h => ?_⟩
  refine PySem.W.methodCall_KW (pl := pl) (thn (he.run pins s σ H _ I h) fun u s1 ⟨x, H1, I1, rx, a, dx, fs, ex, ea, l, q⟩ => ?_) ht
  subst ex
  obtain rfl : u = Value.ref a := rx
  refine getmeth_ok I1 ea c hm l ?_
  refine PySem.W.callWith_K (first := [.ref a]) (h₀ := X.base) I.ok.mod.kin hm.kp (thn (ha.run pos pins s1 σ H1 _ I1 q) fun us s2 ⟨vs, H2, I2, r, q2⟩ => ⟨I2.kIn, ?_⟩) hst hpl
  exact run_fnSD (us := .ref a :: us) (vs := .ref a :: vs) F hr hb hd (hx σ) I2 (.cons rfl r) q2
theorem pe_methSS0 {pl : Sem Bool} (he : PE X o ta) (c : Cls X.K C) (hm : Meth X.K C m f) (F : FnOk X.prog X.w X.K X.mg X.base CX k f fd ps sp) (hr : Room k X.A) (hb : Binds X.K fd ps ds) (hd : Vals dvs ds) (hx : ∀ σ, PassesAt CX X σ (E σ))
    (ht : eval (.Call (.Attribute o m apos) [] [] pos) X.env = (do
      let ov ← eval o X.env
      standAt apos.atName
      let (f, first) ← holding [ov] (getMethod ov m pl)
      callWith pos f first (backTo pos (starEach [] X.env)) (backToKw pos (keywordEach [] X.env))) := by rfl) :
    PE X (.Call (.Attribute o m apos) [] [] pos) (tMethS C m sp dvs E ta tNil) := by
  refine ⟨fun pins s σ H Q I h => ?_⟩
  refine PySem.W.methodCall_KW (pl := pl) (thn (he.run pins s σ H _ I h) fun u s1 ⟨x, H1, I1, rx, a, dx, fs, ex, ea, l, q⟩ => ?_) ht
  subst ex
  obtain rfl : u = Value.ref a := rx
  refine getmeth_ok I1 ea c hm l ?_
  exact PySem.W.callWith_K0 (first := [.ref a]) I1.kIn hm.kp (run_fnSD (us := [.ref a]) (vs := [.ref a]) F hr hb hd (hx σ) I1 (.cons rfl .nil) q)
end
/-! ### fields -/
def gFld (C : Addr) (f : Str) (g : Sl → R Vl) : Sl → R Vl := fun S => (g S).bind fun x S1 => match x.d with
  | .obj c ns xs => if c = C ∧ f ∈ ns then (match xs[ns.idxOf f]? with
    | some d => .ok (elemV x d) S1
    | none => .stuck) else .stuck
  | _ => .stuck
def putN (f : Str) (y : D) (ns : List Str) (xs : List D) : List Str × List D := if f ∈ ns then (ns, xs.set (ns.idxOf f) y) else (ns ++ [f], xs ++ [y])
theorem putF_zip {f : Str} {y : V} : ∀ {ns : List Str} {vs : List V}, ns.length = vs.length → ns.Nodup → putF f y (ns.zip vs) = if f ∈ ns then ns.zip (vs.set (ns.idxOf f) y) else (ns ++ [f]).zip (vs ++ [y])
  | [], [], _, _ => rfl
  | [], _ :: _, h, _ => by simp at h
  | _ :: _, [], h, _ => by simp at h
  | n :: ns, v :: vs, h, nd => by
    obtain ⟨h1, h2⟩ := List.nodup_cons.mp nd
    simp only [List.zip_cons_cons, putF]
    by_cases hn : n = f
    · subst hn
      simp [List.idxOf_cons]
    · rw [if_neg hn, putF_zip (by simpa using h) h2]
      have h3 : (n == f) = false := by simpa using hn
      have h4 : ¬ f = n := fun e => hn e.symm
      by_cases hf : f ∈ ns
      · simp [hf, List.idxOf_cons, h3]
      · simp [hf, h4]
section
variable {X : Cx} {W : WX} {p q p' : Bool} {e ea eb ec : Expr} {es : List Expr} {pos : Pos}
variable {σ0 σ : St} {G H G1 H1 G2 H2 : Hp} {F F1 F2 : Fps} {S S1 S2 : Sl}
theorem ve_fld {C : Addr} {f : Str} {g : Sl → R Vl} (h : VE p X W e g) (c : Cls X.K C) (n : NoAttr X.K C f) (hb : attributeBase e f X.env (eval e X.env) = eval e X.env := by rfl) : VE p X W (.Attribute e f pos) (gFld C f g) := by
  obtain ⟨t, t1, t2⟩ := h
  refine ⟨_, pe_fld t1 hb, fun σ0 σ G H S F Q r hw => ?_⟩
  refine VE.then (t := t) t2 r hw fun x S1 v fp G1 H1 F1 r1 g1 z1 hw1 => ?_
  obtain ⟨xb, xk, xd⟩ := x
  split at hw1
  case h_2 => exact hw1.elim
  rename_i c' ns xs hxd
  simp only at hxd
  subst hxd
  split at hw1
  case isFalse => exact hw1.elim
  rename_i hcond
  obtain ⟨rfl, hf⟩ := hcond
  split at hw1
  case h_2 => exact hw1.elim
  rename_i d hd
  have ow := z1.ow
  cases xk with
  | zero =>
    obtain ⟨z, _⟩ := ow
    simp only [Fz] at z
    obtain ⟨a, dx, vs, rfl, hG, hl, fz⟩ := z
    obtain ⟨w, hw2, zw⟩ := fz.get hd
    refine ⟨a, c', dx, _, w, rfl, r1.inc _ _ hG, c, n, lookup_zip hf hw2, ?_⟩
    refine hw1 w [] G1 H1 F1 r1 g1 ?_
    simp only [elemV, Nat.zero_le, decide_true, Bool.true_or, if_true]
    exact VP.fzn zw
  | succ k =>
    obtain ⟨a, dx, vs, f0, rfl, hH, hl, rfl, ol⟩ := ow
    obtain ⟨w, fw, hw2, zw, _⟩ := OwL.get ol hd
    refine ⟨a, c', dx, _, w, rfl, hH, c, n, lookup_zip hf hw2, ?_⟩
    by_cases hk : k = 0
    · subst hk
      refine hw1 w [] G1 H1 F1 r1 g1 ?_
      simp only [elemV, Nat.le_refl, decide_true, Bool.true_or, if_true]
      exact VP.fzn zw.1
    · by_cases ha : d.atom = true
      · refine hw1 w [] G1 H1 F1 r1 g1 ?_
        simp only [elemV, ha, Bool.or_true, if_true]
        exact VP.fzn (zw.atom ha).1
      · refine hw1 w fw G1 H1 F1 r1 g1 ?_
        have e : elemV ⟨xb, k + 1, .obj c' ns xs⟩ d = ⟨true, k, d⟩ := by
          unfold elemV
          rw [if_neg (by simp [ha]; omega)]
          simp
        rw [e]
        exact ⟨zw, (fun h => nomatch h), (fun h => nomatch h), (fun h => nomatch h), (fun h => nomatch h)⟩
end
end VL

set_option Elab.async false
set_option linter.all false
set_option autoImplicit false
set_option maxRecDepth 100000
namespace VL
open PySem PySem.Spec L2
open PyProof.Rows hiding St

def subO (S : Sl) (i : Nat) (π : List Stp) : Option (Nat × D × Nat × Addr × List Str × List D) := match S[i]? with
  | some ⟨_, some (k, d)⟩ => if π.length < k then (match D.at π d with
    | some (.obj c ns xs) => some (k, d, k - π.length - 1, c, ns, xs)
    | _ => none) else none
  | _ => none
theorem subO_some {S : Sl} {i : Nat} {π : List Stp} {k m : Nat} {d : D} {c : Addr} {ns : List Str} {xs : List D} (h : subO S i π = some (k, d, m, c, ns, xs)) : ∃ pin, S[i]? = some ⟨pin, some (k, d)⟩ ∧ D.at π d = some (.obj c ns xs) ∧ π.length < k ∧ k - π.length = m + 1 := by
  unfold subO at h
  split at h
  case h_2 => cases h
  rename_i pin k' d' hc
  split at h
  case isFalse => cases h
  rename_i hk
  split at h
  case h_2 => cases h
  rename_i c' ns' xs' ha
  cases h
  exact ⟨pin, hc, ha, hk, by omega⟩
section
variable {X : Cx} {W : WX} {p q p' : Bool} {e ea eb ec : Expr} {es : List Expr} {pos : Pos}
variable {σ0 σ : St} {G H G1 H1 G2 H2 : Hp} {F F1 F2 : Fps} {S S1 S2 : Sl}
theorem SR.objAt {i k m : Nat} {d : D} {c : Addr} {ns : List Str} {xs : List D} {π : List Stp} (r : SR σ0 G H σ S F) (h : subO S i π = some (k, d, m, c, ns, xs)) :
    ∃ v a dx vs f, σ[i]? = some (some v) ∧ PathV H π v (.ref a) ∧ H a = some (.ins c dx (ns.zip vs)) ∧ ns.length = xs.length ∧ OwL (Ow G H m) xs vs f ∧ a ∉ f ∧ f.Nodup ∧ a ∈ F i ∧ (∀ b ∈ f, b ∈ F i) ∧
      ∀ ns' xs' vs' g, ns'.length = xs'.length → OwL (Ow G (upd H a (.ins c dx (ns'.zip vs'))) m) xs' vs' g → a ∉ g → g.Nodup → (∀ b ∈ g, b ∈ f ∨ ((∀ j, b ∉ F j) ∧ G b = none)) →
        ∃ fp', SR σ0 G (upd H a (.ins c dx (ns'.zip vs'))) σ (S.put i (some (k, D.put π d (.obj c ns' xs')))) (fpPut F i fp') ∧ ∀ {p0 : Bool} {G0 H0 : Hp} {F0 : Fps} {S0 S' : Sl}, Gr p0 G0 H0 F0 S0 G H F S → (∀ b ∈ g, b ∈ f ∨ (∃ j, b ∈ F0 j) ∨ H0 b = none) → Gr false G0 H0 F0 S0 G (upd H a (.ins c dx (ns'.zip vs'))) (fpPut F i fp') S' := by
  obtain ⟨pin, hc, ha, hk, hm⟩ := subO_some h
  obtain ⟨v, u, f0, hσ, hp, o, nd, inF, mu⟩ := r.mutAt hc ha (Nat.le_of_lt hk)
  rw [hm] at o mu
  obtain ⟨a, dx, vs, f, rfl, hH, hl, rfl, ol⟩ := o
  obtain ⟨n1, n2⟩ := List.nodup_cons.mp nd
  refine ⟨v, a, dx, vs, f, hσ, hp, hH, hl, ol, n1, n2, inF a (by simp), fun b hb => inF b (by simp [hb]), fun ns' xs' vs' g h0 h1 h2 h3 h4 => ?_⟩
  obtain ⟨fp', q1, q2⟩ := mu (upd H a (.ins c dx (ns'.zip vs'))) (.obj c ns' xs') (a :: g) (fun b hb o ho => by rw [upd_ne fun e : b = a => hb (by simp [e])]; exact ho) ⟨a, dx, vs', g, rfl, upd_same, h0, rfl, h1⟩ (List.nodup_cons.mpr ⟨h2, h3⟩) (fun b hb => by
    rcases List.mem_cons.mp hb with rfl | hb
    · exact .inl (by simp)
    · rcases h4 b hb with h | h
      · exact .inl (by simp [h])
      · exact .inr h) upd_ntup
  refine ⟨fp', q1, fun {p0 G0 H0 F0 S0 S'} g0 h0 => q2 g0 fun b hb => ?_⟩
  rcases List.mem_cons.mp hb with rfl | hb
  · exact .inl (by simp)
  · rcases h0 b hb with h | h
    · exact .inl (by simp [h])
    · exact .inr h
/-! ### x.f = e -/
def gFldSet (C : Addr) (f : Str) (gx : Sl → R Vl) (pl : Pl) : Sl → R Out := fun S => (gx S).bind fun y S1 => if y.b then .stuck else match pl S1 with
  | none => .stuck
  | some (i, π) => match subO S1 i π with
    | some (k, d, m, c, ns, xs) => if decide (c = C) && decide ns.Nodup && decide (ns.length < 1000) && (y.k == m || m == 0 || y.d.atom) then .ok .nx (S1.put i (some (k, D.put π d (.obj c (putN f y.d ns xs).1 (putN f y.d ns xs).2)))) else .stuck
    | none => .stuck
theorem vs_fldSet {C : Addr} {f : Str} {pos' : Pos} {gx : Sl → R Vl} {pl : Pl} (h : VE p X W e gx) (hp : VPl X W ea pl) (c : Cls X.K C) (n : NoAttr X.K C f) (hs : swapsWith e (some (.Attribute ea f pos')) pos.line X.env = pure false := by rfl) :
    VS X W (.Assign [.Attribute ea f pos'] e pos) (gFldSet C f gx pl) := by
  obtain ⟨t, t1, t2⟩ := h
  obtain ⟨w, w1, w2⟩ := hp
  refine ⟨_, ps_fld w1 t1 hs, fun σ0 σ G H S F Ed r hw => ?_⟩
  refine VE.sthen (t := t) t2 r hw fun y S1 v fp G1 H1 F1 r1 g1 z1 hw1 => ?_
  obtain ⟨yb, yk, yd⟩ := y
  cases yb with
  | true => exact hw1.elim
  | false =>
    simp only [Bool.false_eq_true, if_false] at hw1
    split at hw1
    case h_1 => exact hw1.elim
    rename_i i π hpl
    split at hw1
    case h_2 => exact hw1.elim
    rename_i k d m c' ns xs hsub
    split at hw1
    case isFalse => exact hw1.elim
    rename_i hcond
    rw [Bool.and_eq_true, Bool.and_eq_true, Bool.and_eq_true] at hcond
    obtain ⟨⟨⟨hc, hnd⟩, hln⟩, hk⟩ := hcond
    have hc := of_decide_eq_true hc
    subst hc
    have hnd := of_decide_eq_true hnd
    have hln := of_decide_eq_true hln
    simp only [Bool.or_eq_true, beq_iff_eq] at hk
    refine w2 σ0 σ G1 H1 S1 F1 _ r1 ?_
    rw [hpl]
    intro v0 u0 G2 H2 r2 g2 hσ hpa
    obtain ⟨G4, fq, r4, g4, z4⟩ := fit_item (k := m) r2 (g1.tt g2) (z1.carry g2 (.inl rfl)) (by
      rcases hk with (hk | hk) | hk
      · exact .inl hk
      · exact .inr (.inl hk)
      · exact .inr (.inr hk))
    obtain ⟨v', a, dx, vs, f', hσ', hpa', hH, hl, ol, naf, nf, aF, fF, mu⟩ := r4.objAt hsub
    rw [hσ] at hσ'
    cases hσ'
    have hu : u0 = .ref a := hpa.det hpa'
    subst hu
    have hlv : ns.length = vs.length := by rw [hl, ol.length]
    refine ⟨a, c', dx, _, rfl, hH, c, n, by rw [List.length_zip]; omega, ?_⟩
    have nq : ∀ b ∈ fq, b ∉ F1 i := fun b hb => z4.dj rfl i b hb
    have haq : a ∉ fq := fun h => nq a h aF
    rw [putF_zip hlv hnd]
    -- what stands there afterwards
    by_cases hfn : f ∈ ns
    · rw [if_pos hfn]
      have hix : ns.idxOf f < xs.length := by rw [← hl]; exact List.idxOf_lt_length_of_mem hfn
      have keepU : ∀ {b : Addr} {o : HO}, b ≠ a → H2 b = some o → upd H2 a (.ins c' dx (ns.zip (vs.set (ns.idxOf f) v))) b = some o := fun hb ho => by rw [upd_ne hb]; exact ho
      have ol2 : OwL (Ow G4 (upd H2 a (.ins c' dx (ns.zip (vs.set (ns.idxOf f) v)))) m) xs vs f' := ol.mono fun d u fd hd z => z.keep (Inc.refl _) fun b hb o ho => keepU (fun e => naf (e ▸ hd b hb)) ho
      have zq : Ow G4 (upd H2 a (.ins c' dx (ns.zip (vs.set (ns.idxOf f) v)))) m yd v fq := z4.ow.keep (Inc.refl _) fun b hb o ho => keepU (fun e => haq (e ▸ hb)) ho
      obtain ⟨_, f3, f4, f5, _, _, q1, q2, q3⟩ := OwL.set (d' := yd) (v' := v) (fq := fq) zq (j := ns.idxOf f) (d := xs[ns.idxOf f]) ol2 (by simp [hix])
      have in4 : ∀ b ∈ f4, b ∈ f' := fun b hb => q2.mem_iff.mpr (List.mem_append_right _ hb)
      obtain ⟨fp', m1, m2⟩ := mu ns (xs.set (ns.idxOf f) yd) (vs.set (ns.idxOf f) v) f5 (by simp [hl]) q1 (fun h => by
        rcases List.mem_append.mp (q3.mem_iff.mp h) with h | h
        · exact haq h
        · exact naf (in4 a h)) (q3.nodup_iff.mpr (List.nodup_append.mpr ⟨z4.nd rfl, (List.nodup_append.mp (q2.nodup_iff.mp nf)).2.1, fun b hb c hc e => nq b hb (e ▸ fF c (in4 c hc))⟩)) (fun b hb => by
        rcases List.mem_append.mp (q3.mem_iff.mp hb) with h | h
        · exact .inr ⟨fun j => z4.dj rfl j b h, z4.ns rfl b h⟩
        · exact .inl (in4 b h))
      simp only [putN, if_pos hfn] at hw1
      exact hw1 σ G4 _ _ m1 (m2 g4 fun b hb => by
        rcases List.mem_append.mp (q3.mem_iff.mp hb) with h | h
        · exact .inr (z4.src rfl b h)
        · exact .inl (in4 b h))
    · rw [if_neg hfn]
      have keepU : ∀ {b : Addr} {o : HO}, b ≠ a → H2 b = some o → upd H2 a (.ins c' dx ((ns ++ [f]).zip (vs ++ [v]))) b = some o := fun hb ho => by rw [upd_ne hb]; exact ho
      have ol2 : OwL (Ow G4 (upd H2 a (.ins c' dx ((ns ++ [f]).zip (vs ++ [v])))) m) xs vs f' := ol.mono fun d u fd hd z => z.keep (Inc.refl _) fun b hb o ho => keepU (fun e => naf (e ▸ hd b hb)) ho
      have zq : Ow G4 (upd H2 a (.ins c' dx ((ns ++ [f]).zip (vs ++ [v])))) m yd v fq := z4.ow.keep (Inc.refl _) fun b hb o ho => keepU (fun e => haq (e ▸ hb)) ho
      obtain ⟨fp', m1, m2⟩ := mu (ns ++ [f]) (xs ++ [yd]) (vs ++ [v]) (f' ++ fq) (by simp [hl]) (ol2.append (OwL.one zq)) (fun h => by
        rcases List.mem_append.mp h with h | h
        · exact naf h
        · exact haq h) (List.nodup_append.mpr ⟨nf, z4.nd rfl, fun b hb c hc e => nq c hc (e ▸ fF b hb)⟩) (fun b hb => by
        rcases List.mem_append.mp hb with h | h
        · exact .inl h
        · exact .inr ⟨fun j => z4.dj rfl j b h, z4.ns rfl b h⟩)
      simp only [putN, if_neg hfn] at hw1
      exact hw1 σ G4 _ _ m1 (m2 g4 fun b hb => by
        rcases List.mem_append.mp hb with h | h
        · exact .inl h
        · exact .inr (z4.src rfl b h))
/-! ### a field as a place -/
def plFl (C : Addr) (f : Str) (pl : Pl) : Pl := fun S => match pl S with
  | none => none
  | some (i, π) => match subO S i π with
    | some (_, _, _, c, ns, xs) => if c = C ∧ f ∈ ns then some (i, π ++ [.fl f]) else none
    | none => none
theorem vpl_fl {C : Addr} {f : Str} {pl : Pl} (h : VPl X W ea pl) (c : Cls X.K C) (n : NoAttr X.K C f) (hb : attributeBase ea f X.env (eval ea X.env) = eval ea X.env := by rfl) : VPl X W (.Attribute ea f pos) (plFl C f pl) := by
  obtain ⟨t, t1, t2⟩ := h
  refine ⟨_, pe_fld t1 hb, fun σ0 σ G H S F Q r hw => ?_⟩
  unfold plFl at hw
  split at hw
  case h_1 => exact hw.elim
  rename_i i9 π9 e9
  split at e9
  case h_1 => cases e9
  rename_i i π e1
  split at e9
  case h_2 => cases e9
  rename_i k d m c' ns xs hsub
  split at e9
  case isFalse => cases e9
  rename_i hcond
  obtain ⟨rfl, hf⟩ := hcond
  cases e9
  refine t2 σ0 σ G H S F _ r ?_
  rw [e1]
  intro v u' G1 H1 r1 g1 hσ hp
  obtain ⟨v', a, dx, vs, f', hσ', hpa', hH, hl, ol, _⟩ := r1.objAt hsub
  rw [hσ] at hσ'
  cases hσ'
  have hu : u' = .ref a := hp.det hpa'
  subst hu
  have hix : ns.idxOf f < vs.length := by rw [ol.length, ← hl]; exact List.idxOf_lt_length_of_mem hf
  have hlk := lookup_zip (vs := vs) hf (by simp [hix] : vs[ns.idxOf f]? = some vs[ns.idxOf f])
  exact ⟨a, c', dx, _, _, rfl, hH, c, n, hlk, hw v _ G1 H1 r1 g1 hσ (hp.snoc_fl hH hlk)⟩
end
end VL

set_option Elab.async false
set_option linter.all false
set_option autoImplicit false
set_option maxRecDepth 100000
namespace VL
open PySem PySem.Spec L2
open PyProof.Rows hiding St

/-- a method, or what else is called by an address -/
structure CalM (P : Program) (w : World) (K : PySem.W.Frag) (mg : Str → Option Value) (base : Heap) (k : Nat) (C : Addr) (m : Str) (n : Nat) (ds : List D) (fs : Sl → R Vl) : Prop where
  cl : Cls K C
  ex : ∃ a fd ps dvs dvals, FnOk P w K mg base (L2.CX P w) k a fd ps (SpF n fs) ∧ Meth K C m a ∧ Binds K fd ps dvals ∧ Vals dvs dvals ∧ ∀ G, FzL G ds dvs
structure CalI (P : Program) (w : World) (K : PySem.W.Frag) (mg : Str → Option Value) (base : Heap) (k : Nat) (x : Str) (C : Addr) (n : Nat) (ds : List D) (fs : Sl → R Vl) : Prop where
  gl : mg x = some (.ref C)
  ex : ∃ a fd ps dvs dvals, FnOk P w K mg base (L2.CX P w) k a fd ps (SpF n fs) ∧ Mk K C a ∧ Binds K fd ps dvals ∧ Vals dvs dvals ∧ ∀ G, FzL G ds dvs
section
variable {X : Cx} {W : WX} {p q p' : Bool} {e ea eb ec : Expr} {es : List Expr} {pos : Pos}
variable {σ0 σ : St} {G H G1 H1 G2 H2 : Hp} {F F1 F2 : Fps} {S S1 S2 : Sl}
/-- what the slots own stays -/
theorem SR.kept (r : SR σ0 G H σ S F) (up : Inc G G1) (inc : Inc G1 H1) (k : ∀ i a o, a ∈ F i → H a = some o → H1 a = some o) (fs : ∀ i a, a ∈ F i → G1 a = none) (tp : ∀ a us, H1 a = some (.tup us) → G1 a = some (.tup us)) : SR σ0 G1 H1 σ S F where
  len := r.len
  row := fun i c hc => by
    obtain ⟨h1, h2, h3⟩ := r.row i c hc
    exact ⟨h1, fun k' d e => by
      obtain ⟨v, e1, e2⟩ := h2 k' d e
      exact ⟨v, e1, e2.keep up fun a ha o ho => k i a o ha ho⟩, h3⟩
  out := r.out
  nd := r.nd
  dj := r.dj
  fs := fs
  inc := inc
  tp := tp
theorem argV_cells : ∀ {as : List Ar} {S T : Sl}, allV as = true → argSl as S = some T → ∀ (i : Nat) (c : Cell), T[i]? = some c → ∃ d, c = ⟨false, some (0, d)⟩ := fun {as S T} h hT i c hc => by
  obtain ⟨_, g⟩ := argSl_at hT
  rcases g i c hc with ⟨d, _, e⟩ | ⟨j, pin, kd, e, _⟩
  · exact ⟨d, e⟩
  · exact absurd e (allV_io h i j)
/-- C(..) -/
def gMake (C : Addr) (mk : Nat) (ds : List D) (f : Sl → R Vl) (ga : Sl → R (List Ar)) : Sl → R Vl := fun S => (ga S).bind fun as S1 => if allV as then (match argSl as S1 with
  | none => .stuck
  | some T => (match f (⟨true, some (mk + 1, .obj C [] [])⟩ :: (T ++ ds.map fun d => ⟨false, some (0, d)⟩)) with
    | .stuck => .stuck
    | .ok x T' => (match x.d, (T'[0]? : Option Cell) with
      | .non, some ⟨_, some (k', d')⟩ => if k' = mk + 1 then .ok ⟨false, mk + 1, d'⟩ S1 else .stuck
      | _, _ => .stuck)
    | .err c w _ => .err c w S1)) else .stuck
theorem SR.self {T : Sl} {vs : List V} {x dx C : Addr} {mk : Nat} (r : SR (vs.map some) G H (vs.map some) T F) (hF : ∀ i, F i = []) (hx : H x = none) (hdx : H dx = none) (hne : dx ≠ x) :
    SR ((V.ref x :: vs).map some) G (upd (upd H dx (.own x)) x (.ins C dx [])) ((V.ref x :: vs).map some) (⟨true, some (mk + 1, .obj C [] [])⟩ :: T) (fun i => if i = 0 then [x] else []) := by
  have keep : ∀ {a : Addr} {o : HO}, H a = some o → upd (upd H dx (.own x)) x (.ins C dx []) a = some o := fun {a o} h => by
    have h1 : a ≠ x := fun e => by rw [e, hx] at h; cases h
    have h2 : a ≠ dx := fun e => by rw [e, hdx] at h; cases h
    rw [upd_ne h1, upd_ne h2]; exact h
  refine ⟨by have := r.len; simpa using this, fun i c hc => ?_, fun i hi => ?_, fun i => ?_, fun i j a h1 h2 => ?_, fun i a h => ?_, fun a o h => keep (r.inc a o h), fun a us h => ?_⟩
  · cases i with
    | zero =>
      simp at hc
      subst hc
      refine ⟨fun _ => rfl, fun k d e => ?_, fun e => nomatch e⟩
      cases e
      exact ⟨.ref x, rfl, x, dx, [], [], rfl, by rw [upd_same]; rfl, rfl, rfl, rfl, rfl⟩
    | succ i =>
      have hc' : T[i]? = some c := by simpa using hc
      obtain ⟨h1, h2, h3⟩ := r.row i c hc'
      refine ⟨fun e => by simpa using h1 e, fun k d e => ?_, fun _ => rfl⟩
      obtain ⟨v, e1, e2⟩ := h2 k d e
      refine ⟨v, by simpa using e1, ?_⟩
      rw [hF i] at e2
      exact e2.keep (Inc.refl _) fun a ha => by simp at ha
  · have : i ≠ 0 := by intro e; subst e; simp at hi
    simp [this]
  · by_cases h : i = 0 <;> simp [h]
  · by_cases h3 : i = 0
    · by_cases h4 : j = 0
      · rw [h3, h4]
      · simp [h4] at h2
    · simp [h3] at h1
  · by_cases h3 : i = 0
    · subst h3
      have : a = x := by simpa using h
      subst this
      exact r.gNone hx
    · simp [h3] at h
  · by_cases h1 : a = x
    · subst h1; rw [upd_same] at h; cases h
    · rw [upd_ne h1] at h
      by_cases h2 : a = dx
      · subst h2; rw [upd_same] at h; cases h
      · rw [upd_ne h2] at h; exact r.tp a us h
theorem SR.defs {T : Sl} {vs dvs : List V} {ds : List D} (r : SR (vs.map some) G H (vs.map some) T F) (hF : ∀ i, F i = []) (hd : FzL G ds dvs) :
    SR ((vs ++ dvs).map some) G H ((vs ++ dvs).map some) (T ++ ds.map fun d => ⟨false, some (0, d)⟩) F := by
  have hlen : vs.length = T.length := by have := r.len; simpa using this
  refine ⟨by simp [hlen, hd.length], fun i c hc => ?_, fun i hi => hF i, fun i => by rw [hF i]; exact .nil, fun i j a h => by rw [hF i] at h; simp at h, fun i a h => by rw [hF i] at h; simp at h, r.inc, r.tp⟩
  by_cases hi : i < T.length
  · have hc' : T[i]? = some c := by rw [List.getElem?_append_left hi] at hc; exact hc
    obtain ⟨h1, h2, h3⟩ := r.row i c hc'
    refine ⟨fun _ => rfl, fun k d e => ?_, h3⟩
    obtain ⟨v, e1, e2⟩ := h2 k d e
    refine ⟨v, ?_, e2⟩
    rw [List.map_append, List.getElem?_append_left (by simp [hlen]; exact hi)]
    exact e1
  · rw [List.getElem?_append_right (by omega)] at hc
    rw [List.getElem?_map, Option.map_eq_some_iff] at hc
    obtain ⟨d, hd1, rfl⟩ := hc
    refine ⟨fun _ => rfl, fun k d' e => ?_, fun e => nomatch e⟩
    cases e
    obtain ⟨v, e1, e2⟩ := hd.get hd1
    refine ⟨v, ?_, e2, hF i⟩
    rw [List.map_append, List.getElem?_append_right (by simp [hlen]; omega)]
    simp [hlen, e1]
theorem ve_make {x : Str} {xp : Pos} {k j n mk : Nat} {C : Addr} {ds : List D} {fs : Sl → R Vl} {ga : Sl → R (List Ar)} (Ci : CalI X.prog X.w X.K X.mg X.base j x C n ds fs) (tk : Takes X W) (hr : Room k X.A) (hjk : j + 1 ≤ k)
    (ha : VAr p X W (e :: es) ga) (hl : ∀ S as S', ga S = .ok as S' → as.length + ds.length + 1 = n) (hg : Gl X x := by rfl) (hdb : (x == ("__debug__" : Str)) = false := by decide) (he : starEach (e :: es) X.env = (false, eval e X.env) :: starEach es X.env := by rfl) (hpl : (backTo pos (starEach es X.env)).any (·.1) = false := by rfl) :
    VE p X W (.Call (.Name x xp) (e :: es) [] pos) (gMake C mk ds fs ga) := by
  obtain ⟨hm, a, fd, ps, dvs, dvals, Fn, M, hb, hdv, hdz⟩ := Ci
  obtain ⟨t, t1, t2⟩ := ha
  refine ⟨_, pe_makeS M Fn (hr.mono hjk) hg hm hb hdv (E := WE W) (fun σ => passAt tk σ) t1 hdb he hpl, fun σ0 σ G H S F Q r hw => ?_⟩
  unfold gMake at hw
  cases hga : ga S with
  | stuck => rw [hga] at hw; exact hw.elim
  | err c w S' =>
    rw [hga] at hw
    exact t2 σ0 σ G H S F _ r (by rw [hga]; exact hw)
  | ok as S1 =>
    rw [hga] at hw
    refine t2 σ0 σ G H S F _ r ?_
    rw [hga]
    intro vs G1 H1 F1 r1 g1 a x dx hx hdx hne
    simp only [R.bind] at hw
    split at hw
    case isFalse => exact hw.elim
    rename_i ok
    split at hw
    case h_1 => exact hw.elim
    rename_i T hT
    have hF : ∀ i, argF as F1 i = [] := fun i => by
      unfold argF
      split
      · rename_i j e; exact absurd e (allV_io ok i j)
      · rfl
    have hdf := hdz G1
    have rin := ((r1.args a (allV_ok ok) hT).defs hF hdf).self (C := C) (mk := mk) hF hx hdx hne
    have hvl : dvs.length = ds.length := hdf.length
    refine ⟨by simp [a.len, hvl]; have := hl S as S1 hga; omega, G1, _, _, rin, ?_⟩
    have keep0 : ∀ {b : Addr} {o : HO}, H1 b = some o → upd (upd H1 dx (.own x)) x (.ins C dx []) b = some o := fun {b o} h => by
      have h1 : b ≠ x := fun e => by rw [e, hx] at h; cases h
      have h2 : b ≠ dx := fun e => by rw [e, hdx] at h; cases h
      rw [upd_ne h1, upd_ne h2]; exact h
    have none0 : ∀ {b : Addr}, upd (upd H1 dx (.own x)) x (.ins C dx []) b = none → H1 b = none := fun {b} h => by
      cases hb : H1 b with
      | none => rfl
      | some o => rw [keep0 hb] at h; cases h
    cases hf : fs (⟨true, some (mk + 1, .obj C [] [])⟩ :: (T ++ ds.map fun d => ⟨false, some (0, d)⟩)) with
    | stuck => rw [hf] at hw; exact hw.elim
    | err c w T' =>
      rw [hf] at hw
      intro dd G2 H2 F2 r2 g2 er
      have hw : OkE σ0 σ G H S F W c w S1 := hw
      have kin : ∀ {b : Addr} {o : HO}, H1 b = some o → H2 b = some o := fun {b o} h => by
        refine g2.fr b o (keep0 h) fun i hi => ?_
        by_cases h0 : i = 0
        · simp [h0] at hi; subst hi; rw [hx] at h; cases h
        · simp [h0] at hi
      have r3 : SR σ0 G2 H2 σ S1 F1 := r1.kept g2.up r2.inc (fun i b o hb ho => kin ho) (fun i b hb => by
        obtain ⟨o, ho⟩ := r1.dom hb
        cases hh : G2 b with
        | none => rfl
        | some o' =>
          rcases g2.new b (by rw [hh]; simp) with h | ⟨i, h⟩ | h
          · exact absurd (r1.fs i b hb) h
          · by_cases h0 : i = 0
            · simp [h0] at h; subst h; rw [hx] at ho; cases ho
            · simp [h0] at h
          · rw [none0 h] at ho; cases ho) r2.tp
      have g3 : Gr false G1 H1 F1 S1 G2 H2 F1 S1 := ⟨g2.up, fun b hb => by
        rcases g2.new b hb with h | ⟨i, h⟩ | h
        · exact .inl h
        · by_cases h0 : i = 0
          · simp [h0] at h; subst h; exact .inr (.inr hx)
          · simp [h0] at h
        · exact .inr (.inr (none0 h)), fun b o ho _ => kin ho, fun i b hb => .inl ⟨i, hb⟩, fun h => nomatch h⟩
      exact (hw.from g1) dd G2 H2 F1 r3 g3 er
    | ok y T' =>
      rw [hf] at hw
      simp only at hw
      split at hw
      case h_2 => exact hw.elim
      rename_i pin k' d' hyd hT0
      split at hw
      case isFalse => exact hw.elim
      rename_i hk'
      subst hk'
      intro v fp G2 H2 F2 r2 g2 z2
      have hv : v = .non := by
        have := z2.ow
        rw [hyd] at this
        obtain ⟨yb, yk, yd⟩ := y
        cases yk with
        | zero => exact this.1
        | succ k => exact this.1
      have kin : ∀ {b : Addr} {o : HO}, H1 b = some o → H2 b = some o := fun {b o} h => by
        refine g2.fr b o (keep0 h) fun i hi => ?_
        by_cases h0 : i = 0
        · simp [h0] at hi; subst hi; rw [hx] at h; cases h
        · simp [h0] at hi
      have new2 : ∀ b, G2 b ≠ none → G1 b ≠ none ∨ H1 b = none := fun b hb => by
        rcases g2.new b hb with h | ⟨i, h⟩ | h
        · exact .inl h
        · by_cases h0 : i = 0
          · simp [h0] at h; subst h; exact .inr hx
          · simp [h0] at h
        · exact .inr (none0 h)
      have r3 : SR σ0 G2 H2 σ S1 F1 := r1.kept g2.up r2.inc (fun i b o hb ho => kin ho) (fun i b hb => by
        obtain ⟨o, ho⟩ := r1.dom hb
        cases hh : G2 b with
        | none => rfl
        | some o' =>
          rcases new2 b (by rw [hh]; simp) with h | h
          · exact absurd (r1.fs i b hb) h
          · rw [h] at ho; cases ho) r2.tp
      have g3 : Gr true G1 H1 F1 S1 G2 H2 F1 S1 := ⟨g2.up, fun b hb => by
        rcases new2 b hb with h | h
        · exact .inl h
        · exact .inr (.inr h), fun b o ho _ => kin ho, fun i b hb => .inl ⟨i, hb⟩, fun _ => ⟨rfl, rfl, fun b o ho => kin ho, new2⟩⟩
      obtain ⟨_, q2, _⟩ := r2.row 0 _ hT0
      obtain ⟨v0, e0, o0⟩ := q2 _ _ rfl
      have hv0 : v0 = .ref x := by simpa using e0.symm
      subst hv0
      refine ⟨hv, hw (.ref x) (F2 0) G2 H2 F1 r3 (g1.tt g3) (VP.from g1 ⟨o0, fun _ => r2.nd 0, fun _ b hb => ?_, fun _ i b hb hi => ?_, fun _ b hb => r2.fs 0 b hb⟩)⟩
      · rcases g2.src 0 b hb with ⟨j, h⟩ | h
        · by_cases h0 : j = 0
          · simp [h0] at h; subst h; exact .inr hx
          · simp [h0] at h
        · exact .inr (none0 h)
      · obtain ⟨o, ho⟩ := r1.dom hi
        rcases g2.src 0 b hb with ⟨j, h⟩ | h
        · by_cases h0 : j = 0
          · simp [h0] at h; subst h; rw [hx] at ho; cases ho
          · simp [h0] at h
        · rw [none0 h] at ho; cases ho
end
end VL

set_option Elab.async false
set_option linter.all false
set_option autoImplicit false
set_option maxRecDepth 100000
namespace VL
open PySem PySem.Spec L2
open PyProof.Rows hiding St

section
variable {X : Cx} {W : WX} {p q p' : Bool} {e ea eb ec o : Expr} {es : List Expr} {pos apos : Pos}
variable {σ0 σ : St} {G H G1 H1 G2 H2 : Hp} {F F1 F2 : Fps} {S S1 S2 : Sl}
theorem ArOk.cons {σ : St} {G : Hp} {as : List Ar} {vs : List V} {d : D} {v : V} (h : ArOk σ G as vs) (z : Fz G d v) : ArOk σ G (.v d :: as) (v :: vs) := ⟨by simp [h.len], fun i d' e => by
  cases i with
  | zero => simp at e; subst e; exact ⟨v, rfl, z⟩
  | succ i => simpa using h.v i d' (by simpa using e), fun i j e => by
  cases i with
  | zero => simp at e
  | succ i => simpa using h.io i j (by simpa using e)⟩
theorem ArOk.defs {σ : St} {G : Hp} {as : List Ar} {vs dvs : List V} {ds : List D} (h : ArOk σ G as vs) (z : FzL G ds dvs) : ArOk σ G (as ++ ds.map Ar.v) (vs ++ dvs) := by
  refine ⟨by simp [h.len, z.length], fun i d e => ?_, fun i j e => ?_⟩
  · by_cases hi : i < as.length
    · rw [List.getElem?_append_left hi] at e
      obtain ⟨v, e1, e2⟩ := h.v i d e
      exact ⟨v, by rw [List.getElem?_append_left (by rw [h.len]; exact hi)]; exact e1, e2⟩
    · rw [List.getElem?_append_right (by omega), List.getElem?_map, Option.map_eq_some_iff] at e
      obtain ⟨d', e1, e2⟩ := e
      cases e2
      obtain ⟨v, e3, e4⟩ := z.get e1
      exact ⟨v, by rw [List.getElem?_append_right (by rw [h.len]; omega), h.len]; exact e3, e4⟩
  · by_cases hi : i < as.length
    · rw [List.getElem?_append_left hi] at e
      obtain ⟨v, e1, e2⟩ := h.io i j e
      exact ⟨v, by rw [List.getElem?_append_left (by rw [h.len]; exact hi)]; exact e1, e2⟩
    · rw [List.getElem?_append_right (by omega), List.getElem?_map, Option.map_eq_some_iff] at e
      obtain ⟨d', e1, e2⟩ := e
      cases e2
theorem lookup_no {α : Type} {m : Str} : ∀ {ns : List Str} {vs : List α}, m ∉ ns → (ns.zip vs).lookup m = none
  | [], vs, h => rfl
  | n :: ns, [], h => rfl
  | n :: ns, v :: vs, h => by
    simp only [List.zip_cons_cons, List.lookup_cons]
    have h1 : (m == n) = false := by simpa using fun e => h (by simp [e])
    rw [h1]
    exact lookup_no fun h' => h (by simp [h'])
/-- o.m(..), all arguments frozen -/
def gMeth (C : Addr) (m : Str) (ds : List D) (f : Sl → R Vl) (go : Sl → R D) (ga : Sl → R (List Ar)) : Sl → R Vl := fun S => (go S).bind fun d S1 => match d with
  | .obj c ns _ => if c = C ∧ m ∉ ns then (ga S1).bind fun as S2 => (if allV (.v d :: (as ++ ds.map Ar.v)) then (match argSl (.v d :: (as ++ ds.map Ar.v)) S2 with
    | none => .stuck
    | some T => (match f T with
      | .stuck => .stuck
      | .ok x _ => .ok x S2
      | .err c w _ => .err c w S2)) else .stuck) else .stuck
  | _ => .stuck
/-- .. some of them lists that stay the caller's -/
def gMethC (C : Addr) (m : Str) (ds : List D) (f : Sl → R Vl) (go : Sl → R D) (ga : Sl → R (List Ar)) : Sl → R Vl := fun S => (go S).bind fun d S1 => match d with
  | .obj c ns _ => if c = C ∧ m ∉ ns then (ga S1).bind fun as S2 => (if okIo (.v d :: (as ++ ds.map Ar.v)) then (match argSl (.v d :: (as ++ ds.map Ar.v)) S2 with
    | none => .stuck
    | some T => (match f T with
      | .stuck => .stuck
      | .ok x T' => .ok x (backSl (.v d :: (as ++ ds.map Ar.v)) T' S2)
      | .err c w T' => .err c w (backSl (.v d :: (as ++ ds.map Ar.v)) T' S2))) else .stuck) else .stuck
  | _ => .stuck
theorem VAr.then2 {g : Sl → R (List Ar)} {t : TA} {β : Type} {f : List Ar → Sl → R β} {ok : β → Sl → Prop} {Q : List V → Hp → Prop} (h2 : ∀ σ0 σ G H S F Q, SR σ0 G H σ S F → (g S).wp (OkR p σ0 σ G H S F Q) (OkE σ0 σ G H S F W) → t σ H Q)
    (r : SR σ0 G H σ S F) (hw : ((g S).bind f).wp ok (OkE σ0 σ G H S F W))
    (k : ∀ as S' vs G' H' F', g S = .ok as S' → SR σ0 G' H' σ S' F' → Gr p G H F S G' H' F' S' → ArOk σ G' as vs → (f as S').wp ok (OkE σ0 σ G' H' S' F' W) → Q vs H') : t σ H Q := by
  refine h2 σ0 σ G H S F Q r ?_
  cases hg : g S with
  | stuck => rw [hg] at hw; exact hw.elim
  | err c w S' => rw [hg] at hw; exact hw
  | ok as S' =>
    rw [hg] at hw
    intro vs G' H' F' r' g' a
    exact k as S' vs G' H' F' hg r' g' a (R.wp_mono hw (fun _ _ h => h) fun c w S' h => (h : OkE σ0 σ G H S F W c w S').from g')
theorem ve_meth {pl : Sem Bool} {k j n : Nat} {C : Addr} {m : Str} {ds : List D} {fs : Sl → R Vl} {go : Sl → R D} {ga : Sl → R (List Ar)} (Cm : CalM X.prog X.w X.K X.mg X.base j C m n ds fs) (tk : Takes X W) (hr : Room k X.A) (hjk : j ≤ k) (ho : VD p X W o go)
    (ha : VAr q X W (e :: es) ga) (hl : ∀ S as S', ga S = .ok as S' → as.length + ds.length + 1 = n) (hst : starEach (e :: es) X.env = (false, eval e X.env) :: starEach es X.env := by rfl) (hpl : (backTo pos (starEach es X.env)).any (·.1) = false := by rfl)
    (ht : eval (.Call (.Attribute o m apos) (e :: es) [] pos) X.env = (do
      let ov ← eval o X.env
      standAt apos.atName
      let (f, first) ← holding [ov] (getMethod ov m pl)
      callWith pos f first (backTo pos (starEach (e :: es) X.env)) (backToKw pos (keywordEach [] X.env))) := by rfl) :
    VE (p && q) X W (.Call (.Attribute o m apos) (e :: es) [] pos) (gMeth C m ds fs go ga) := by
  obtain ⟨cl, a, fd, ps, dvs, dvals, Fn, M, hb, hdv, hdz⟩ := Cm
  obtain ⟨to, o1, o2⟩ := ho
  obtain ⟨t, t1, t2⟩ := ha
  refine ⟨_, pe_methSS o1 cl M Fn (hr.mono hjk) hb hdv (E := WE W) (fun σ => passAt tk σ) t1 hst hpl ht, fun σ0 σ G H S F Q r hw => ?_⟩
  refine VD.then (t := to) o2 r hw fun d S1 v G1 H1 F1 r1 g1 z1 hw1 => ?_
  split at hw1
  case h_2 => exact hw1.elim
  rename_i c ns xs
  split at hw1
  case isFalse => exact hw1.elim
  rename_i hcond
  obtain ⟨rfl, hmn⟩ := hcond
  have z1' := z1
  simp only [Fz] at z1
  obtain ⟨b, dx, us, rfl, hG, hlen, fz⟩ := z1
  refine ⟨b, dx, _, rfl, r1.inc _ _ hG, lookup_no hmn, ?_⟩
  refine VAr.then2 (t := t) t2 r1 hw1 fun as S2 vs G2 H2 F2 hga r2 g2 ar hw2 => ?_
  exact call_spP (W := W) r2 (g1.trans g2) ((ar.defs (hdz G2)).cons (z1'.inc g2.up)) (by have := hl _ _ _ hga; simp; omega) hw2
theorem ve_meth0 {pl : Sem Bool} {k j n : Nat} {C : Addr} {m : Str} {ds : List D} {fs : Sl → R Vl} {go : Sl → R D} (Cm : CalM X.prog X.w X.K X.mg X.base j C m n ds fs) (tk : Takes X W) (hr : Room k X.A) (hjk : j ≤ k) (ho : VD p X W o go) (hl : ds.length + 1 = n)
    (ht : eval (.Call (.Attribute o m apos) [] [] pos) X.env = (do
      let ov ← eval o X.env
      standAt apos.atName
      let (f, first) ← holding [ov] (getMethod ov m pl)
      callWith pos f first (backTo pos (starEach [] X.env)) (backToKw pos (keywordEach [] X.env))) := by rfl) :
    VE p X W (.Call (.Attribute o m apos) [] [] pos) (gMeth C m ds fs go gArN) := by
  obtain ⟨cl, a, fd, ps, dvs, dvals, Fn, M, hb, hdv, hdz⟩ := Cm
  obtain ⟨to, o1, o2⟩ := ho
  refine ⟨_, pe_methSS0 o1 cl M Fn (hr.mono hjk) hb hdv (E := WE W) (fun σ => passAt tk σ) ht, fun σ0 σ G H S F Q r hw => ?_⟩
  refine VD.then (t := to) o2 r hw fun d S1 v G1 H1 F1 r1 g1 z1 hw1 => ?_
  split at hw1
  case h_2 => exact hw1.elim
  rename_i c ns xs
  split at hw1
  case isFalse => exact hw1.elim
  rename_i hcond
  obtain ⟨rfl, hmn⟩ := hcond
  have z1' := z1
  simp only [Fz] at z1
  obtain ⟨b, dx, us, rfl, hG, hlen, fz⟩ := z1
  refine ⟨b, dx, _, rfl, r1.inc _ _ hG, lookup_no hmn, ?_⟩
  have a0 : ArOk σ G1 [] [] := ⟨rfl, fun i d e => by simp at e, fun i j e => by simp at e⟩
  exact call_spP (W := W) r1 g1 ((a0.defs (hdz G1)).cons z1') (by simp; omega) hw1
theorem ve_methC {pl : Sem Bool} {k j n : Nat} {C : Addr} {m : Str} {ds : List D} {fs : Sl → R Vl} {go : Sl → R D} {ga : Sl → R (List Ar)} (Cm : CalM X.prog X.w X.K X.mg X.base j C m n ds fs) (tk : Takes X W) (hr : Room k X.A) (hjk : j ≤ k) (ho : VD p X W o go)
    (ha : VAr q X W (e :: es) ga) (hl : ∀ S as S', ga S = .ok as S' → as.length + ds.length + 1 = n) (hst : starEach (e :: es) X.env = (false, eval e X.env) :: starEach es X.env := by rfl) (hpl : (backTo pos (starEach es X.env)).any (·.1) = false := by rfl)
    (ht : eval (.Call (.Attribute o m apos) (e :: es) [] pos) X.env = (do
      let ov ← eval o X.env
      standAt apos.atName
      let (f, first) ← holding [ov] (getMethod ov m pl)
      callWith pos f first (backTo pos (starEach (e :: es) X.env)) (backToKw pos (keywordEach [] X.env))) := by rfl) :
    VE false X W (.Call (.Attribute o m apos) (e :: es) [] pos) (gMethC C m ds fs go ga) := by
  obtain ⟨cl, a, fd, ps, dvs, dvals, Fn, M, hb, hdv, hdz⟩ := Cm
  obtain ⟨to, o1, o2⟩ := ho
  obtain ⟨t, t1, t2⟩ := ha
  refine ⟨_, pe_methSS o1 cl M Fn (hr.mono hjk) hb hdv (E := WE W) (fun σ => passAt tk σ) t1 hst hpl ht, fun σ0 σ G H S F Q r hw => ?_⟩
  refine VD.then (t := to) o2 r hw fun d S1 v G1 H1 F1 r1 g1 z1 hw1 => ?_
  split at hw1
  case h_2 => exact hw1.elim
  rename_i c ns xs
  split at hw1
  case isFalse => exact hw1.elim
  rename_i hcond
  obtain ⟨rfl, hmn⟩ := hcond
  have z1' := z1
  simp only [Fz] at z1
  obtain ⟨b, dx, us, rfl, hG, hlen, fz⟩ := z1
  refine ⟨b, dx, _, rfl, r1.inc _ _ hG, lookup_no hmn, ?_⟩
  refine VAr.then2 (t := t) t2 r1 hw1 fun as S2 vs G2 H2 F2 hga r2 g2 ar hw2 => ?_
  exact call_sp (W := W) r2 (g1.off.trans g2.off) ((ar.defs (hdz G2)).cons (z1'.inc g2.up)) (by have := hl _ _ _ hga; simp; omega) hw2
end
end VL

set_option Elab.async false
set_option linter.all false
set_option autoImplicit false
set_option maxRecDepth 100000
namespace VL
open PySem PySem.Spec L2
open PyProof.Rows hiding St

/-! ### _law_spoil: what it is given is owned through and through; nothing else is touched -/
def spOk : Nat → Nat → D → Bool
  | 0, _, _ => false
  | j + 1, 0, .lst _ => false
  | j + 1, k + 1, .lst ds => decide (ds.length < 16777216) && ds.all (spOk j k)
  | j + 1, _, .tup ds => ds.all (spOk j 0)
  | _ + 1, _, .non => true
  | _ + 1, _, .bl _ => true
  | _ + 1, _, .int _ => true
  | _ + 1, _, .str _ => true
  | _, _, _ => false
/-- the heap behind: nothing else is touched, new are tuples alone -/
structure Sp1 (C : Addr → Prop) (H H' : Hp) : Prop where
  k : ∀ a o, ¬ C a → H a = some o → H' a = some o
  tp : ∀ a us, H' a = some (.tup us) → H a = some (.tup us) ∨ H a = none
  d : ∀ a, H a ≠ none → H' a ≠ none
def spSpoil (j : Nat) : Sp := fun vs H Q E => ∃ v k d G fp, vs = [v] ∧ Ow G H k d v fp ∧ spOk j k d = true ∧ Inc G H ∧ fp.Nodup ∧ (∀ a ∈ fp, G a = none) ∧ ∀ H', Sp1 (· ∈ fp) H H' → Q .non H'
theorem Sp1.refl (C : Addr → Prop) (H : Hp) : Sp1 C H H := ⟨fun _ _ _ h => h, fun _ _ h => .inl h, fun _ h => h⟩
theorem Sp1.trans {C C' C2 : Addr → Prop} {A B D : Hp} (x : Sp1 C A B) (y : Sp1 C' B D) (h1 : ∀ a, C a → C2 a) (h2 : ∀ a, C' a → C2 a) : Sp1 C2 A D := ⟨fun a o hn h => y.k a o (fun h' => hn (h2 a h')) (x.k a o (fun h' => hn (h1 a h')) h), fun a us h => by
  rcases y.tp a us h with h | h
  · exact x.tp a us h
  · cases ha : A a with
    | none => exact .inr rfl
    | some o => exact absurd h (x.d a (by rw [ha]; simp)), fun a h => y.d a (x.d a h)⟩
theorem Sp1.mono {C C2 : Addr → Prop} {A B : Hp} (x : Sp1 C A B) (h : ∀ a, C a → C2 a) : Sp1 C2 A B := ⟨fun a o hn e => x.k a o (fun h' => hn (h a h')) e, x.tp, x.d⟩
theorem Sp1.new {C : Addr → Prop} {H : Hp} {a : Addr} {o : HO} (h : H a = none) : Sp1 C H (upd H a o) := ⟨fun b u _ e => by rw [upd_ne fun e' : b = a => by rw [e', h] at e; cases e]; exact e, fun b us e => by
  by_cases hb : b = a
  · exact .inr (hb ▸ h)
  · rw [upd_ne hb] at e; exact .inl e, fun b e => by
  by_cases hb : b = a
  · subst hb; rw [upd_same]; simp
  · rw [upd_ne hb]; exact e⟩
theorem Sp1.upd {C : Addr → Prop} {H : Hp} {a : Addr} {xs : List V} (h : C a) : Sp1 C H (upd H a (.lst xs)) := ⟨fun b u hn e => by rw [upd_ne fun e' : b = a => hn (e' ▸ h)]; exact e, fun b us e => by
  by_cases hb : b = a
  · subst hb; rw [upd_same] at e; cases e
  · rw [upd_ne hb] at e; exact .inl e, fun b e => by
  by_cases hb : b = a
  · subst hb; rw [upd_same]; simp
  · rw [upd_ne hb]; exact e⟩
theorem OwL.parts {P : D → V → List Addr → Prop} : ∀ {ds : List D} {vs : List V} {fp : List Addr}, OwL P ds vs fp → fp.Nodup → ∃ F : Nat → List Addr, (∀ (i : Nat) (d : D) (v : V), ds[i]? = some d → vs[i]? = some v → P d v (F i) ∧ (F i).Nodup) ∧ (∀ i a, a ∈ F i → a ∈ fp) ∧ ∀ i j a, a ∈ F i → a ∈ F j → i = j
  | [], vs, fp, h, nd => ⟨fun _ => [], fun i d v e => by simp at e, fun i a h => by simp at h, fun i j a h => by simp at h⟩
  | d :: ds, vs, fp, h, nd => by
    obtain ⟨v, r, f, g, rfl, rfl, h1, h2⟩ := h
    obtain ⟨n1, n2, n3⟩ := List.nodup_append.mp nd
    obtain ⟨F, k1, k2, k3⟩ := OwL.parts h2 n2
    refine ⟨fun i => match i with | 0 => f | i + 1 => F i, fun i d' v' e1 e2 => ?_, fun i a h => ?_, fun i j a h1 h2 => ?_⟩
    · cases i with
      | zero => simp at e1 e2; subst e1 e2; exact ⟨h1, n1⟩
      | succ i => exact k1 i d' v' (by simpa using e1) (by simpa using e2)
    · cases i with
      | zero => exact List.mem_append_left _ h
      | succ i => exact List.mem_append_right _ (k2 i a h)
    · cases i with
      | zero =>
        cases j with
        | zero => rfl
        | succ j => exact absurd rfl (n3 a h1 a (k2 j a h2))
      | succ i =>
        cases j with
        | zero => exact absurd rfl (n3 a h2 a (k2 i a h1))
        | succ j => rw [k3 i j a h1 h2]
section
variable {K : PySem.W.Frag}
theorem spoil_ty {G H : Hp} {j k : Nat} {d : D} {v : V} {fp : List Addr} (o : Ow G H k d v fp) (m : Inc G H) (h : spOk j k d = true) : ∃ t, tyName d = some t ∧ TyX K H v (.type t) := by
  cases j with
  | zero => simp [spOk] at h
  | succ j =>
    cases k with
    | zero =>
      cases d <;> simp [spOk] at h <;> exact ⟨_, rfl, tyName_ty rfl o.1 m⟩
    | succ k =>
      cases d <;> simp [spOk] at h
      · exact ⟨_, rfl, tyName_ty rfl o.1 m⟩
      · exact ⟨_, rfl, tyName_ty rfl o.1 m⟩
      · exact ⟨_, rfl, tyName_ty rfl o.1 m⟩
      · exact ⟨_, rfl, tyName_ty rfl o.1 m⟩
      · obtain ⟨a, vs, f, rfl, hH, _⟩ := o
        exact ⟨_, rfl, .base (.lst hH)⟩
      · exact ⟨_, rfl, tyName_ty rfl o.1 m⟩
theorem isi_lt (t : String) (ht : t ∈ "NoneType" :: tyDom) (hl : t ≠ "list") (htu : t ≠ "tuple") : PySem.W.kitAny K (.type t) [.type "list", .type "tuple"] = some false := by
  obtain ⟨us, h1, h2⟩ := isiAny_ok (K := K) (G := fun _ => none) ht (cs := [.ty "list", .ty "tuple"]) (vs := [.ty "list", .ty "tuple"]) (b := false) (by
    simp [isiAny, tyDom, isiB, hl, htu]) (.cons rfl (.cons rfl .nil))
  cases h1 with
  | cons a b =>
    cases b with
    | cons c d =>
      cases d
      cases a
      cases c
      exact h2
theorem isi_seq (t : String) (h : t = "list" ∨ t = "tuple") : PySem.W.kitAny K (.type t) [.type "list", .type "tuple"] = some true := by
  obtain ⟨us, h1, h2⟩ := isiAny_ok (K := K) (G := fun _ => none) (t := t) (by rcases h with rfl | rfl <;> decide) (cs := [.ty "list", .ty "tuple"]) (vs := [.ty "list", .ty "tuple"]) (b := true) (by
    rcases h with rfl | rfl <;> rfl) (.cons rfl (.cons rfl .nil))
  cases h1 with
  | cons a b =>
    cases b with
    | cons c d =>
      cases d
      cases a
      cases c
      exact h2
theorem isi_l (t : String) (ht : t ∈ "NoneType" :: tyDom) : PySem.W.kitOne K (.type t) (.type "list") = some (t == "list") := by
  have := kit_ty (K := K) (isiB_kit t ht "list" (by decide))
  rw [this]
  simp [isiB]
theorem spoil_2 {Q : VK} {H H2 : Hp} {v : V} {u : Option V} {t : String} {fp : List Addr} (ht : t ∈ "NoneType" :: tyDom) (hty : TyX K H2 v (.type t)) (s2 : Sp1 (· ∈ fp) H H2) (hl : t = "list" → ∃ a vs, v = .ref a ∧ H2 a = some (.lst vs) ∧ vs.length < 16777216 ∧ a ∈ fp) (q : ∀ H', Sp1 (· ∈ fp) H H' → Q .non H') :
    (tIfS (tB (tCB (fun vs H Q => rIsi K vs H Q ∨ rIsiT K vs H Q) (tCons (tVar 0) (tCons (tC (V.ty "list")) tNil))))
      (tDrop (tBM K "list" rAppend (tVar 0) (tCons (tC (V.int 77)) tNil))) tNext) { nx := fun _ H' => Q .non H', rt := Q } [some v, u] H2 := by
  refine ⟨v, rfl, .inl ⟨v, .ty "list", .type t, .type "list", t == "list", rfl, .ty "list", hty, isi_l t ht, t == "list", rfl, ?_⟩⟩
  by_cases h : t = "list"
  · obtain ⟨a, vs, rfl, hH, hlen, hfp⟩ := hl h
    show (if (t == "list") = true then _ else _)
    rw [if_pos (by simpa using h)]
    refine ⟨.ref a, rfl, .inl ⟨rfl, vs, .of hH⟩, a, vs, .int 77, rfl, rfl, hH, by rw [sizeLine_eq]; exact hlen, ?_⟩
    exact q _ (s2.trans (Sp1.upd (C := (· ∈ fp)) hfp) (fun _ h => h) (fun _ h => h))
  · show (if (t == "list") = true then _ else _)
    rw [if_neg (by simpa using h)]
    exact q _ s2
theorem spoil_read {j : Nat} {E' : St → XK} {Q : VK} {H : Hp} {v : V} {k : Nat} {d : D} {G : Hp} {fp : List Addr} (ow : Ow G H k d v fp) (ok : spOk (j + 1) k d = true) (inc : Inc G H) (nd : fp.Nodup) (ns : ∀ a ∈ fp, G a = none) (q : ∀ H', Sp1 (· ∈ fp) H H' → Q .non H') :
    tSeq (tIfS (tB (tCB (fun vs H Q => rIsi K vs H Q ∨ rIsiT K vs H Q) (tCons (tVar 0) (tCons (tTup (tCons (tC (V.ty "list")) (tCons (tC (V.ty "tuple")) tNil))) tNil))))
      (tFor (fun σ H R => iList K (tVar 0) σ H R ∨ iTup K (tVar 0) σ H R) (gName 1) (tDrop (tCallS (spSpoil j) E' (tCons (tVar 1) tNil)))) tNext)
    (tIfS (tB (tCB (fun vs H Q => rIsi K vs H Q ∨ rIsiT K vs H Q) (tCons (tVar 0) (tCons (tC (V.ty "list")) tNil))))
      (tDrop (tBM K "list" rAppend (tVar 0) (tCons (tC (V.int 77)) tNil))) tNext) { nx := fun _ H' => Q .non H', rt := Q } [some v, none] H := by
  obtain ⟨t, htn, hty⟩ := spoil_ty (K := K) ow inc ok
  have htd := tyName_dom htn
  refine ⟨v, rfl, by rw [sizeLine_eq]; show 2 ≤ 16777216; decide, fun tp htp => ?_⟩
  -- behind the tuple of the two types
  have s1 : Sp1 (fun _ => False) H (upd H tp (.tup [.ty "list", .ty "tuple"])) := Sp1.new htp
  have inc1 : Inc G (upd H tp (.tup [.ty "list", .ty "tuple"])) := fun a o e => s1.k a o (fun h => h) (inc a o e)
  have ow1 : Ow G (upd H tp (.tup [.ty "list", .ty "tuple"])) k d v fp := ow.keep (Inc.refl _) fun a _ o ho => s1.k a o (fun h => h) ho
  generalize hH1 : upd H tp (.tup [.ty "list", .ty "tuple"]) = H1 at s1 inc1 ow1 ⊢
  have htp1 : H1 tp = some (.tup [.ty "list", .ty "tuple"]) := by rw [← hH1]; exact upd_same
  have hty1 : TyX K H1 v (.type t) := by
    obtain ⟨t', e1, e2⟩ := spoil_ty (K := K) ow1 inc1 ok
    rw [htn] at e1; cases e1; exact e2
  by_cases hseq : t = "list" ∨ t = "tuple"
  · refine .inr ⟨v, tp, [.ty "list", .ty "tuple"], .type t, [.type "list", .type "tuple"], true, rfl, htp1, .cons (.ty _) (.cons (.ty _) .nil), hty1, isi_seq t hseq, true, rfl, ?_⟩
    show (if true = true then _ else _)
    rw [if_pos rfl]
    rcases hseq with rfl | rfl
    · -- a list
      obtain ⟨ds, rfl⟩ : ∃ ds, d = .lst ds := by cases d <;> simp [tyName] at htn; exact ⟨_, rfl⟩
      cases k with
      | zero => simp [spOk] at ok
      | succ k =>
        obtain ⟨a, vs, f, rfl, hH, rfl, ol⟩ := ow1
        simp only [spOk, Bool.and_eq_true, decide_eq_true_eq, List.all_eq_true] at ok
        obtain ⟨hlen, hall⟩ := ok
        obtain ⟨naf, ndf⟩ := List.nodup_cons.mp nd
        obtain ⟨F, k1, k2, k3⟩ := ol.parts ndf
        refine .inl ⟨.ref a, rfl, a, rfl, ⟨vs, .of hH⟩, for_list (K := K) (xs := vs) (fun i σ H' => (∃ u, σ = [some (.ref a), u]) ∧ Sp1 (fun b => ∃ l, l < i ∧ b ∈ F l) H1 H') ⟨⟨none, rfl⟩, Sp1.refl _ _⟩ (fun i σ H' _ h => .of (h.2.k a _ (fun ⟨l, _, hb⟩ => naf (k2 l a hb)) hH)) ?_ ?_⟩
        · rintro i x σ H' hx ⟨⟨u, rfl⟩, sp⟩
          have hi : i < ds.length := by rw [← ol.length]; exact (List.getElem?_eq_some_iff.mp hx).1
          obtain ⟨ho, hn⟩ := k1 i ds[i] x (by simp [hi]) hx
          have ho' : Ow G H' k ds[i] x (F i) := ho.keep (Inc.refl _) fun b hb o e => sp.k b o (fun ⟨l, hl, hb'⟩ => by have := k3 i l b hb hb'; omega) e
          refine ⟨x, rfl, x, k, ds[i], G, F i, rfl, ho', hall _ (List.getElem_mem hi), fun b o e => sp.k b o (fun ⟨l, hl, hb'⟩ => ?_) (inc1 b o e), hn, fun b hb => ns b (List.mem_cons_of_mem _ (k2 i b hb)), fun H'' sp' => ?_⟩
          · rw [ns b (List.mem_cons_of_mem _ (k2 l b hb'))] at e; cases e
          · exact ⟨⟨_, rfl⟩, sp.trans sp' (fun b ⟨l, hl, hb⟩ => ⟨l, by omega, hb⟩) (fun b hb => ⟨i, by omega, hb⟩)⟩
        · rintro σ H' ⟨⟨u, rfl⟩, sp⟩
          have hH' : H' a = some (.lst vs) := sp.k a _ (fun ⟨l, _, hb⟩ => naf (k2 l a hb)) hH
          exact spoil_2 (t := "list") htd (.base (.lst hH')) (s1.trans sp (fun _ h => h.elim) (fun b ⟨l, _, hb⟩ => List.mem_cons_of_mem _ (k2 l b hb))) (fun _ => ⟨a, vs, rfl, hH', by rw [ol.length]; exact hlen, by simp⟩) q
    · -- a tuple
      obtain ⟨ds, rfl⟩ : ∃ ds, d = .tup ds := by cases d <;> simp [tyName] at htn; exact ⟨_, rfl⟩
      have hz : Fz G (.tup ds) v ∧ fp = [] := by cases k <;> exact ow1
      obtain ⟨z, rfl⟩ := hz
      simp only [Fz] at z
      obtain ⟨a, vs, rfl, hG, fz⟩ := z
      have hall : ∀ x ∈ ds, spOk j 0 x = true := by cases k <;> simpa [spOk] using ok
      refine .inr ⟨.ref a, rfl, a, rfl, ⟨vs, .of (inc1 _ _ hG)⟩, for_tup (K := K) (xs := vs) (fun i σ H' => (∃ u, σ = [some (.ref a), u]) ∧ Sp1 (fun _ => False) H1 H') ⟨⟨none, rfl⟩, Sp1.refl _ _⟩ (fun i σ H' _ h => .of (h.2.k a _ (fun h => h) (inc1 _ _ hG))) ?_ ?_⟩
      · rintro i x σ H' hx ⟨⟨u, rfl⟩, sp⟩
        obtain ⟨di, e1, e2⟩ := fz.get' hx
        refine ⟨x, rfl, x, 0, di, G, [], rfl, ⟨e2, rfl⟩, hall _ (List.mem_of_getElem? e1), fun b o e => sp.k b o (fun h => h) (inc1 b o e), .nil, (fun b hb => by simp at hb), fun H'' sp' => ?_⟩
        exact ⟨⟨_, rfl⟩, sp.trans sp' (fun _ h => h) (fun b hb => by simp at hb)⟩
      · rintro σ H' ⟨⟨u, rfl⟩, sp⟩
        exact spoil_2 (t := "tuple") htd (.base (.tup (sp.k a _ (fun h => h) (inc1 _ _ hG)))) (s1.trans sp (fun _ h => h.elim) (fun _ h => h.elim)) (fun e => nomatch e) q
  · have hl : t ≠ "list" := fun e => hseq (.inl e)
    have htu : t ≠ "tuple" := fun e => hseq (.inr e)
    refine .inr ⟨v, tp, [.ty "list", .ty "tuple"], .type t, [.type "list", .type "tuple"], false, rfl, htp1, .cons (.ty _) (.cons (.ty _) .nil), hty1, isi_lt t htd hl htu, false, rfl, ?_⟩
    show (if false = true then _ else _)
    rw [if_neg (by decide)]
    exact spoil_2 (t := t) htd hty1 (s1.mono fun _ h => h.elim) (fun e => absurd e hl) q
end
structure CalS (P : Program) (w : World) (K : PySem.W.Frag) (mg : Str → Option Value) (base : Heap) (j : Nat) : Prop where
  ex : ∃ a fd ps, FnOk P w K mg base (L2.CX P w) j a fd ps (spSpoil j) ∧ mg "_law_spoil" = some (.ref a) ∧ PySem.W.keepIn K (.ref a) = true ∧ Binds K fd ps []
def gSpoil (j : Nat) (g : Sl → R Vl) : Sl → R Out := fun S => (g S).bind fun x S1 => if !x.b && spOk j x.k x.d then .ok .nx S1 else .stuck
section
variable {X : Cx} {W : WX} {p q p' : Bool} {e ea eb ec : Expr} {es : List Expr} {pos : Pos}
variable {σ0 σ : St} {G H G1 H1 G2 H2 : Hp} {F F1 F2 : Fps} {S S1 S2 : Sl}
theorem vs_spoil {k j : Nat} {xp cp : Pos} {g : Sl → R Vl} (C : CalS X.prog X.w X.K X.mg X.base j) (tk : Takes X W) (hr : Room k X.A) (hjk : j ≤ k) (h : VE p X W e g) (hg : Gl X "_law_spoil" := by rfl)
    (he : starEach [e] X.env = (false, eval e X.env) :: starEach [] X.env := by rfl) (hpl : (backTo cp (starEach [] X.env)).any (·.1) = false := by rfl) :
    VS X W (.Expr (.Call (.Name "_law_spoil" xp) [e] [] cp) pos) (gSpoil j g) := by
  obtain ⟨a, fd, ps, Fn, hm, hk, hb⟩ := C.ex
  obtain ⟨t, t1, t2⟩ := h
  refine ⟨_, ps_expr (pe_callS Fn (hr.mono hjk) hg hm hk hb (E := WE W) (fun σ => passAt tk σ) (pa_cons t1 pa_nil he) (by decide) he hpl), fun σ0 σ G H S F Ed r hw => ?_⟩
  refine VE.sthen (t := t) t2 r hw fun x S1 v fp G1 H1 F1 r1 g1 z1 hw1 => ?_
  split at hw1
  case isFalse => exact hw1.elim
  rename_i hc
  obtain ⟨hxb, hsp⟩ := Bool.and_eq_true_iff.mp hc
  have hxb : x.b = false := by simpa using hxb
  refine ⟨v, x.k, x.d, G1, fp, rfl, z1.ow, hsp, r1.inc, z1.nd hxb, z1.ns hxb, fun H' sp => ?_⟩
  classical
  let G' : Hp := fun a => if H1 a = none then (match H' a with | some (.tup us) => some (.tup us) | _ => none) else G1 a
  have hG' : ∀ a, H1 a ≠ none → G' a = G1 a := fun a h => if_neg h
  have nF : ∀ b, H b ≠ none → (∀ j, b ∉ F j) → b ∉ fp := fun b hb hn hf => by
    rcases z1.src hxb b hf with ⟨j, hj⟩ | h
    · exact hn j hj
    · exact hb h
  have r2 : SR σ0 G' H' σ S1 F1 := r1.kept (fun a o ho => by
      rw [hG' a (by rw [r1.inc _ _ ho]; simp)]; exact ho) (fun a o ho => by
      by_cases h1 : H1 a = none
      · simp only [G', if_pos h1] at ho
        split at ho
        · rename_i us e; cases ho; exact e
        · cases ho
      · rw [hG' a h1] at ho
        exact sp.k a o (fun hf => by rw [z1.ns hxb a hf] at ho; cases ho) (r1.inc _ _ ho)) (fun i a o ha ho => sp.k a o (fun hf => z1.dj hxb i a hf ha) ho) (fun i a ha => by
      obtain ⟨o, ho⟩ := r1.dom ha
      rw [hG' a (by rw [ho]; simp)]; exact r1.fs i a ha) (fun a us hus => by
      rcases sp.tp a us hus with h | h
      · rw [hG' a (by rw [h]; simp)]; exact r1.tp a us h
      · simp only [G', if_pos h, hus])
  refine hw1 σ G' H' F1 r2 ⟨fun a o ho => ?_, fun b hb => ?_, fun b o ho hn => ?_, g1.src, fun h => nomatch h⟩
  · have := g1.up a o ho
    rw [hG' a (by rw [r1.inc _ _ this]; simp)]; exact this
  · by_cases h1 : H1 b = none
    · cases hh : H b with
      | none => exact .inr (.inr rfl)
      | some o =>
        by_cases hF : ∃ j, b ∈ F j
        · exact .inr (.inl hF)
        · have := g1.fr b o hh fun j hj => hF ⟨j, hj⟩
          rw [h1] at this; cases this
    · rw [hG' b h1] at hb; exact g1.new b hb
  · exact sp.k b o (nF b (by rw [ho]; simp) hn) (g1.fr b o ho hn)
end
end VL

set_option Elab.async false
set_option linter.all false
set_option autoImplicit false
set_option maxRecDepth 100000
namespace VL
open PySem PySem.Spec L2
open PyProof.Rows hiding St

section
variable {X : Cx} {W : WX} {p q p' : Bool} {e ea eb ec : Expr} {es : List Expr} {pos : Pos}
variable {σ0 σ : St} {G H G1 H1 G2 H2 : Hp} {F F1 F2 : Fps} {S S1 S2 : Sl}
/-! ### displays whose items are owned -/
structure OwnL (m : Nat) (H : Hp) (F : Fps) (G' H' : Hp) (F' : Fps) (ds : List D) (vs : List V) (fp : List Addr) : Prop where
  ow : OwL (Ow G' H' m) ds vs fp
  nd : fp.Nodup
  src : ∀ a ∈ fp, (∃ j, a ∈ F j) ∨ H a = none
  dj : ∀ i, ∀ a ∈ fp, a ∉ F' i
  ns : ∀ a ∈ fp, G' a = none
def OkAo (p : Bool) (m : Nat) (σ0 σ : St) (G H : Hp) (S : Sl) (F : Fps) (Q : List V → Hp → Prop) (ds : List D) (S' : Sl) : Prop := ∀ vs fp G' H' F', SR σ0 G' H' σ S' F' → Gr p G H F S G' H' F' S' → OwnL m H F G' H' F' ds vs fp → Q vs H'
def VAo (p : Bool) (m : Nat) (X : Cx) (W : WX) (es : List Expr) (g : Sl → R (List D)) : Prop := ∃ t, PA X es t ∧ ∀ σ0 σ G H S F Q, SR σ0 G H σ S F → (g S).wp (OkAo p m σ0 σ G H S F Q) (OkE σ0 σ G H S F W) → t σ H Q
def gConsO (m : Nat) (g : Sl → R Vl) (r : Sl → R (List D)) : Sl → R (List D) := fun S => (g S).bind fun x S1 => if !x.b && (x.k == m || m == 0 || x.d.atom) then (r S1).bind fun ds S2 => .ok (x.d :: ds) S2 else .stuck
theorem vao_nil {m : Nat} : VAo true m X W [] gNil := ⟨_, pa_nil, fun σ0 σ G H S F Q r hw => hw [] [] G H F r (.refl r) ⟨⟨rfl, rfl⟩, .nil, by simp, by simp, by simp⟩⟩
theorem vao_cons {m : Nat} {g : Sl → R Vl} {gr : Sl → R (List D)} (h : VE p X W e g) (hr : VAo true m X W es gr) (hs : starEach (e :: es) X.env = (false, eval e X.env) :: starEach es X.env := by rfl) : VAo p m X W (e :: es) (gConsO m g gr) := by
  obtain ⟨t, a1, a2⟩ := h
  obtain ⟨u, b1, b2⟩ := hr
  refine ⟨_, pa_cons a1 b1 hs, fun σ0 σ G H S F Q r hw => ?_⟩
  refine a2 σ0 σ G H S F _ r (R.wp_mono (R.wp_bind hw) (fun x S1 hw1 v fp G1 H1 F1 r1 g1 z1 => ?_) fun c w s h => h)
  obtain ⟨xb, xk, xd⟩ := x
  split at hw1
  case isFalse => exact hw1.elim
  rename_i hc
  obtain ⟨hb, hk⟩ := Bool.and_eq_true_iff.mp hc
  have hb : xb = false := by simpa using hb
  subst hb
  simp only [Bool.or_eq_true, beq_iff_eq] at hk
  obtain ⟨G4, fq, r4, g4, z4⟩ := fit_item (k := m) r1 g1 z1 (by
    rcases hk with (hk | hk) | hk
    · exact .inl hk
    · exact .inr (.inl hk)
    · exact .inr (.inr hk))
  refine b2 σ0 σ G4 H1 S1 F1 _ r4 (R.wp_mono (R.wp_bind hw1) (fun ds S2 h2 vs fp2 G2 H2 F2 r2 g2 o2 => ?_) fun c w s h => OkE.from g4 h)
  have z5 := z4.carry g2 (.inl rfl)
  obtain ⟨eS, eF, hinc, _⟩ := g2.pure rfl
  subst eS
  subst eF
  refine h2 (v :: vs) (fq ++ fp2) G2 H2 F2 r2 (g4.tt g2) ⟨⟨v, vs, fq, fp2, rfl, rfl, z5.ow, o2.ow⟩, List.nodup_append.mpr ⟨z5.nd rfl, o2.nd, fun a ha b hb e => ?_⟩, fun a ha => ?_, fun i a ha => ?_, fun a ha => ?_⟩
  · subst e
    rcases o2.src a hb with ⟨j, hj⟩ | h
    · exact z4.dj rfl j a ha hj
    · obtain ⟨o, ho⟩ := z4.ow.dom a ha
      rw [h] at ho; cases ho
  · rcases List.mem_append.mp ha with h | h
    · exact z4.src rfl a h
    · exact g4.back (o2.src a h)
  · rcases List.mem_append.mp ha with h | h
    · exact z5.dj rfl i a h
    · exact o2.dj i a h
  · rcases List.mem_append.mp ha with h | h
    · exact z5.ns rfl a h
    · exact o2.ns a h
def gLstO (m : Nat) (g : Sl → R (List D)) : Sl → R Vl := fun S => (g S).bind fun ds S1 => if lineOk ds then .ok ⟨false, m + 1, .lst ds⟩ S1 else .stuck
theorem ve_lstO {m : Nat} {g : Sl → R (List D)} (h : VAo p m X W es g) : VE p X W (.List es pos) (gLstO m g) := by
  obtain ⟨t, a1, a2⟩ := h
  refine ⟨_, pe_lst a1, fun σ0 σ G H S F Q r hw => ?_⟩
  refine a2 σ0 σ G H S F _ r (R.wp_mono (R.wp_bind hw) (fun ds S1 hw1 vs fp G1 H1 F1 r1 g1 o1 => ?_) fun c w s h => h)
  split at hw1
  case isFalse => exact hw1.elim
  rename_i hl
  refine ⟨by rw [o1.ow.length]; exact lineOk.le hl, fun C hC => ?_⟩
  have dm : ∀ a ∈ fp, ∃ o, H1 a = some o := OwL.dom o1.ow (C := fun a => ∃ o, H1 a = some o) fun d v f h => Ow.dom h
  have nC : C ∉ fp := fun h => by obtain ⟨o, ho⟩ := dm C h; rw [hC] at ho; cases ho
  refine hw1 (.ref C) (C :: fp) G1 _ F1 (r1.new hC) (g1.tt (Gr.new' r1 hC)) ⟨⟨C, vs, fp, rfl, upd_same, rfl, o1.ow.mono fun d u fd hd z => z.keep (Inc.refl _) fun b hb o ho => by rw [upd_ne fun e : b = C => nC (e ▸ hd b hb)]; exact ho⟩, fun _ => List.nodup_cons.mpr ⟨nC, o1.nd⟩, fun _ a ha => ?_, fun _ i a ha => ?_, fun _ a ha => ?_⟩
  · rcases List.mem_cons.mp ha with rfl | ha
    · exact g1.back (.inr hC)
    · exact o1.src a ha
  · rcases List.mem_cons.mp ha with rfl | ha
    · exact r1.notF hC i
    · exact o1.dj i a ha
  · rcases List.mem_cons.mp ha with rfl | ha
    · exact r1.gNone hC
    · exact o1.ns a ha
/-! ### a < b < c of ints -/
def gChain (h1 h2 : D → D → Option D) (ga gb gc : Sl → R D) : Sl → R D := fun S => (ga S).bind fun x S1 => (gb S1).bind fun y S2 => match h1 x y with
  | some (.bl true) => (gc S2).bind fun z S3 => (match h2 y z with | some d => .ok d S3 | none => .stuck)
  | some (.bl false) => .ok (.bl false) S2
  | _ => .stuck
theorem vd_chain {op op' : CmpOp} {r r' : R2} {h1 h2 : D → D → Option D} {ga gb gc : Sl → R D} (ho : OpR X (compareOp op) r) (ho' : OpR X (compareOp op') r') (hr : OpD r h1) (hr' : OpD r' h2) (a : VD p X W ea ga) (b : VD true X W eb gb) (c : VD true X W ec gc)
    (hm : lastMarks [op, op'] [eb, ec] = false := by with_unfolding_all rfl) : VD p X W (.Compare ea [op, op'] [eb, ec] pos) (gChain h1 h2 ga gb gc) := by
  obtain ⟨ta, a1, a2⟩ := a
  obtain ⟨tb, b1, b2⟩ := b
  obtain ⟨tc, c1, c2⟩ := c
  refine ⟨_, pe_chain ho ho' a1 b1 c1 hm, fun σ0 σ G H S F Q r hw => ?_⟩
  refine VD.then (t := ta) a2 r hw fun x S1 v G1 H1 F1 r1 g1 z1 hw1 => ?_
  refine VD.then (t := tb) b2 r1 hw1 fun y S2 u G2 H2 F2 r2 g2 z2 hw2 => ?_
  split at hw2
  · rename_i hd
    refine hr x y _ hd G2 H2 v u _ (z1.inc g2.up) z2 r2.inc fun w hz => ?_
    simp only [Fz] at hz
    subst hz
    refine ⟨true, rfl, ?_⟩
    rw [if_pos rfl]
    refine VD.then (t := tc) c2 r2 hw2 fun z S3 w G3 H3 F3 r3 g3 z3 hw3 => ?_
    cases hd2 : h2 y z with
    | none => rw [hd2] at hw3; exact hw3.elim
    | some d =>
      rw [hd2] at hw3
      exact hr' y z d hd2 G3 H3 u w _ (z2.inc g3.up) z3 r3.inc fun w' hz' => hw3 w' G3 H3 F3 r3 ((g1.tt g2).tt g3) hz'
  · rename_i hd
    refine hr x y _ hd G2 H2 v u _ (z1.inc g2.up) z2 r2.inc fun w hz => ?_
    simp only [Fz] at hz
    subst hz
    refine ⟨false, rfl, ?_⟩
    rw [if_neg (by decide)]
    exact hw2 (.bl false) G2 H2 F2 r2 (g1.tt g2) rfl
  · exact hw2.elim
/-! ### bits -/
abbrev dShl := hI (fun i j => decide (0 ≤ j ∧ j ≤ 1000000 ∧ i.natAbs < 2 ^ 64)) (fun i j => i * 2 ^ j.toNat)
theorem opd_shl : OpD (rI CPow fun i j => .int (i * 2 ^ j.toNat)) dShl := opd_I fun i j h => by simp only [decide_eq_true_eq] at h; exact h
abbrev dShr := hI (fun _ j => decide (0 ≤ j)) (fun i j => i / 2 ^ j.toNat)
theorem opd_shr : OpD (rI (fun _ j => 0 ≤ j) fun i j => .int (i / 2 ^ j.toNat)) dShr := opd_I fun i j h => by simp only [decide_eq_true_eq] at h; exact h
abbrev dBand := hI (fun _ _ => true) (fun i j => Builtin.bitAnd i j)
theorem opd_band : OpD (rI0 fun i j => .int (Builtin.bitAnd i j)) dBand := opd_I0
end
end VL

set_option Elab.async false
set_option linter.all false
set_option autoImplicit false
set_option maxRecDepth 100000
namespace VL
open PySem PySem.Spec L2
open PyProof.Rows hiding St

/-! ### dicts read -/
def lookX {κ α : Type} [DecidableEq κ] (ks : List κ) (xs : List α) (k : κ) : Option α := ((ks.zip xs).find? fun kv => decide (kv.1 = k)).map (·.2)
def LookR (G : Hp) : Option D → Option V → Prop
  | some d, some w => Fz G d w
  | none, none => True
  | _, _ => False
def dLook (c k : D) : Option (Option D) := match c with
  | .dK ks ds => (keyD k).map fun kk => lookX ks ds kk
  | .dT ks ds => match k with
    | .tup kd => (keysD kd).map fun kk => lookX ks ds kk
    | _ => none
  | _ => none
section
variable {X : Cx} {W : WX} {p q p' : Bool} {e ea eb ec : Expr} {es : List Expr} {pos apos : Pos}
variable {σ0 σ : St} {G H G1 H1 G2 H2 : Hp} {F F1 F2 : Fps} {S S1 S2 : Sl}
theorem FzL.look {κ : Type} [DecidableEq κ] {k : κ} : ∀ {ks : List κ} {ds : List D} {vs : List V}, FzL G ds vs → LookR G (lookX ks ds k) (lookX ks vs k)
  | [], ds, vs, h => by simp [lookX, LookR]
  | a :: ks, [], vs, h => by
    simp only [FzL] at h; subst h
    simp [lookX, LookR]
  | a :: ks, d :: ds, vs, h => by
    simp only [FzL] at h
    obtain ⟨v, r, rfl, h1, h2⟩ := h
    have ih := FzL.look (k := k) (ks := ks) h2
    by_cases ha : a = k
    · simp [lookX, LookR, ha, h1]
    · have e1 : lookX (a :: ks) (d :: ds) k = lookX ks ds k := by simp [lookX, ha]
      have e2 : lookX (a :: ks) (v :: r) k = lookX ks r k := by simp [lookX, ha]
      rw [e1, e2]; exact ih
theorem Rv1.dK {ks : List Key} {ds : List D} {v : V} (h : Rv1 G H (.dK ks ds) v) (m : Inc G H) : ∃ a vs, v = .ref a ∧ Rd H a (.dK (ks.zip vs)) ∧ FzL G ds vs := by
  obtain ⟨k, fp, hk, z⟩ := h
  rcases Nat.le_one_iff_eq_zero_or_eq_one.mp hk with rfl | rfl
  · obtain ⟨z, _⟩ := z
    simp only [Fz] at z
    obtain ⟨a, vs, rfl, r, _, q⟩ := z
    exact ⟨a, vs, rfl, r.imp (m _ _) fun ⟨o, e⟩ => ⟨o, m _ _ e⟩, q⟩
  · obtain ⟨a, vs, f, rfl, hH, _, _, ol⟩ := z
    exact ⟨a, vs, rfl, .inl hH, OwL.fz0 ol⟩
theorem Rv1.dT {ks : List (List Key)} {ds : List D} {v : V} (h : Rv1 G H (.dT ks ds) v) (m : Inc G H) : ∃ a vs, v = .ref a ∧ Rd H a (.dT (ks.zip vs)) ∧ FzL G ds vs := by
  obtain ⟨k, fp, hk, z⟩ := h
  rcases Nat.le_one_iff_eq_zero_or_eq_one.mp hk with rfl | rfl
  · obtain ⟨z, _⟩ := z
    simp only [Fz] at z
    obtain ⟨a, vs, rfl, r, _, q⟩ := z
    exact ⟨a, vs, rfl, r.imp (m _ _) fun ⟨o, e⟩ => ⟨o, m _ _ e⟩, q⟩
  · obtain ⟨a, vs, f, rfl, hH, _, _, ol⟩ := z
    exact ⟨a, vs, rfl, .inl hH, OwL.fz0 ol⟩
theorem look_ok {c y : D} {v u : V} {o : Option D} (h : dLook c y = some o) (zc : Rv1 G H c v) (zy : Fz G y u) (m : Inc G H) : ∃ a ov, v = .ref a ∧ DGet H a u ov ∧ LookR G o ov := by
  cases c <;> simp only [dLook] at h <;> first | (cases h; done) | skip
  · rename_i ks ds
    obtain ⟨kk, h1, rfl⟩ := Option.map_eq_some_iff.mp h
    obtain ⟨a, vs, rfl, hr, fz⟩ := zc.dK m
    have := keyD_ok h1
    subst this
    have hu := zy.key
    subst hu
    exact ⟨a, _, rfl, .inl ⟨_, kk, hr, rfl, rfl⟩, fz.look⟩
  · rename_i ks ds
    cases y <;> simp only [] at h <;> first | (cases h; done) | skip
    rename_i kd
    obtain ⟨kk, h1, rfl⟩ := Option.map_eq_some_iff.mp h
    obtain ⟨a, vs, rfl, hr, fz⟩ := zc.dT m
    have := keysD_ok h1
    subst this
    simp only [Fz] at zy
    obtain ⟨b, us, rfl, hb, fk⟩ := zy
    have hus := fk.keys
    subst hus
    exact ⟨a, _, rfl, .inr ⟨_, kk, b, hr, rfl, m _ _ hb, rfl⟩, fz.look⟩
/-- d[k] -/
def gDIx (ga : Sl → R Vl) (gk : Sl → R D) : Sl → R D := fun S => (ga S).bind fun x S1 => (gk S1).bind fun y S2 => if x.lev then (match dLook x.d y with
  | some (some d) => .ok d S2
  | _ => .stuck) else .stuck
theorem vd_dIx {ga : Sl → R Vl} {gk : Sl → R D} (a : VE p X W ea ga) (b : VD true X W eb gk) (hu : X.A.units + 64 < cLine) (hs : NoSl eb := by intro _ _; rfl) : VD p X W (.Subscript ea eb pos) (gDIx ga gk) := by
  obtain ⟨ta, a1, a2⟩ := a
  obtain ⟨tb, b1, b2⟩ := b
  refine ⟨_, pe_dget (by omega) a1 b1 hs, fun σ0 σ G H S F Q r hw => ?_⟩
  refine VE.then (t := ta) a2 r hw fun x S1 v fp G1 H1 F1 r1 g1 z1 hw1 => ?_
  refine VD.then (t := tb) b2 r1 hw1 fun y S2 u G2 H2 F2 r2 g2 z2 hw2 => ?_
  split at hw2
  case isFalse => exact hw2.elim
  rename_i hl
  split at hw2
  case h_2 => exact hw2.elim
  rename_i d hd
  obtain ⟨c, ov, rfl, hg, hm⟩ := look_ok hd ((z1.carry g2 (.inr rfl)).rv1 hl) z2 r2.inc
  cases ov with
  | none => exact hm.elim
  | some w => exact ⟨c, w, rfl, hg, hw2 w G2 H2 F2 r2 (g1.tt g2) hm⟩
/-- d.get(k, x) -/
def isDict : D → Bool
  | .dK _ _ => true
  | .dT _ _ => true
  | _ => false
theorem isD_ok {x : D} {v : V} (h : isDict x = true) (z : Rv1 G H x v) (m : Inc G H) : ∃ a, v = .ref a ∧ IsD H a := by
  cases x <;> simp [isDict] at h
  · obtain ⟨a, vs, rfl, hr, _⟩ := z.dK m
    exact ⟨a, rfl, .inl ⟨_, hr⟩⟩
  · obtain ⟨a, vs, rfl, hr, _⟩ := z.dT m
    exact ⟨a, rfl, .inr ⟨_, hr⟩⟩
def gDGet2 (ga : Sl → R Vl) (gk gx : Sl → R D) : Sl → R D := fun S => (ga S).bind fun x S1 => if x.lev && isDict x.d then (gk S1).bind fun y S2 => (gx S2).bind fun z S3 => (match dLook x.d y with
  | some o => .ok (o.getD z) S3
  | none => .stuck) else .stuck
theorem vd_dGet2 {ga : Sl → R Vl} {gk gx : Sl → R D} (a : VE p X W ea ga) (b : VD true X W eb gk) (c : VD true X W ec gx) (hu : X.A.units + 64 < cLine) (m : M2 X ea "get" apos eb ec pos := by exact ⟨by rfl, by rfl, by rfl, by rfl⟩) : VD p X W (.Call (.Attribute ea "get" apos) [eb, ec] [] pos) (gDGet2 ga gk gx) := by
  obtain ⟨ta, a1, a2⟩ := a
  obtain ⟨tb, b1, b2⟩ := b
  obtain ⟨tc, c1, c2⟩ := c
  refine ⟨_, pe_dget2 (by omega) a1 b1 c1 m, fun σ0 σ G H S F Q r hw => ?_⟩
  refine VE.then (t := ta) a2 r hw fun x S1 v fp G1 H1 F1 r1 g1 z1 hw1 => ?_
  split at hw1
  case isFalse => exact hw1.elim
  rename_i hl
  obtain ⟨hl, hdd⟩ := Bool.and_eq_true_iff.mp hl
  obtain ⟨av, hav, hisd⟩ := isD_ok hdd (z1.rv1 hl) r1.inc
  refine ⟨av, hav, hisd, ?_⟩
  refine VD.then (t := tb) b2 r1 hw1 fun y S2 u G2 H2 F2 r2 g2 z2 hw2 => ?_
  refine VD.then (t := tc) c2 r2 hw2 fun z S3 w G3 H3 F3 r3 g3 z3 hw3 => ?_
  cases hd : dLook x.d y with
  | none => rw [hd] at hw3; exact hw3.elim
  | some o =>
    rw [hd] at hw3
    have g23 := g2.trans g3
    obtain ⟨c', ov, rfl, hg, hm⟩ := look_ok hd ((z1.carry g23 (.inr rfl)).rv1 hl) (z2.inc g3.up) r3.inc
    cases hav
    refine ⟨ov, hg, ?_⟩
    cases o with
    | none =>
      cases ov with
      | none => exact hw3 w G3 H3 F3 r3 ((g1.tt g2).tt g3) z3
      | some _ => exact hm.elim
    | some d =>
      cases ov with
      | none => exact hm.elim
      | some w' => exact hw3 w' G3 H3 F3 r3 ((g1.tt g2).tt g3) hm
/-- k in d, k not in d -/
def gDIn (neg : Bool) (gk : Sl → R D) (ga : Sl → R Vl) : Sl → R D := fun S => (gk S).bind fun y S1 => (ga S1).bind fun x S2 => if x.lev then (match dLook x.d y with
  | some o => .ok (.bl (if neg then !o.isSome else o.isSome)) S2
  | none => .stuck) else .stuck
theorem look_some {o : Option D} {ov : Option V} (h : LookR G o ov) : o.isSome = ov.isSome := by
  cases o <;> cases ov <;> first | rfl | exact h.elim
theorem vd_dIn {ga : Sl → R Vl} {gk : Sl → R D} (b : VD p X W eb gk) (a : VE q X W ea ga) (hu : X.A.units + 64 < cLine) (h1 : behindInMarks .In ea = false := by rfl) : VD (p && q) X W (.Compare eb [.In] [ea] pos) (gDIn false gk ga) := by
  obtain ⟨ta, a1, a2⟩ := a
  obtain ⟨tb, b1, b2⟩ := b
  refine ⟨_, pe_cmp (pc_din (by omega) b1 a1) h1, fun σ0 σ G H S F Q r hw => ?_⟩
  refine VD.then (t := tb) b2 r hw fun y S1 u G1 H1 F1 r1 g1 z1 hw1 => ?_
  refine VE.then (t := ta) a2 r1 hw1 fun x S2 v fp G2 H2 F2 r2 g2 z2 hw2 => ?_
  split at hw2
  case isFalse => exact hw2.elim
  rename_i hl
  cases hd : dLook x.d y with
  | none => rw [hd] at hw2; exact hw2.elim
  | some o =>
    rw [hd] at hw2
    obtain ⟨c', ov, rfl, hg, hm⟩ := look_ok hd (z2.rv1 hl) (z1.inc g2.up) r2.inc
    exact ⟨c', ov, rfl, hg, hw2 _ G2 H2 F2 r2 (g1.trans g2) (by rw [look_some hm]; rfl)⟩
theorem vd_dNotIn {ga : Sl → R Vl} {gk : Sl → R D} (b : VD p X W eb gk) (a : VE q X W ea ga) (hu : X.A.units + 64 < cLine) (h1 : behindInMarks .NotIn ea = false := by rfl) : VD (p && q) X W (.Compare eb [.NotIn] [ea] pos) (gDIn true gk ga) := by
  obtain ⟨ta, a1, a2⟩ := a
  obtain ⟨tb, b1, b2⟩ := b
  refine ⟨_, pe_cmp (pc_dnotin (by omega) b1 a1) h1, fun σ0 σ G H S F Q r hw => ?_⟩
  refine VD.then (t := tb) b2 r hw fun y S1 u G1 H1 F1 r1 g1 z1 hw1 => ?_
  refine VE.then (t := ta) a2 r1 hw1 fun x S2 v fp G2 H2 F2 r2 g2 z2 hw2 => ?_
  split at hw2
  case isFalse => exact hw2.elim
  rename_i hl
  cases hd : dLook x.d y with
  | none => rw [hd] at hw2; exact hw2.elim
  | some o =>
    rw [hd] at hw2
    obtain ⟨c', ov, rfl, hg, hm⟩ := look_ok hd (z2.rv1 hl) (z1.inc g2.up) r2.inc
    exact ⟨c', ov, rfl, hg, hw2 _ G2 H2 F2 r2 (g1.trans g2) (by rw [look_some hm]; rfl)⟩
end
end VL

set_option Elab.async false
set_option linter.all false
set_option autoImplicit false
set_option maxRecDepth 100000
namespace VL
open PySem PySem.Spec L2
open PyProof.Rows hiding St

/-! ### a dict that is walked is locked meanwhile -/
structure LeD (G G' : Hp) : Prop where
  dK : ∀ a k, Rd G a (.dK k) → Rd G' a (.dK k)
  dT : ∀ a k, Rd G a (.dT k) → Rd G' a (.dT k)
  rl : ∀ a vs, Rd G a (.lst vs) → Rd G' a (.lst vs)
  ins : ∀ a c dx fs, G a = some (.ins c dx fs) → G' a = some (.ins c dx fs)
  lst : ∀ a vs, G a = some (.lst vs) → G' a = some (.lst vs)
  tup : ∀ a vs, G a = some (.tup vs) → G' a = some (.tup vs)
  xd : ∀ a fs, G a = some (.xd fs) → G' a = some (.xd fs)
mutual
theorem Fz.leD {G G' : Hp} (m : LeD G G') : ∀ (d : D) (v : V), Fz G d v → Fz G' d v
  | .non, v, h => by simpa [Fz] using h
  | .bl b, v, h => by simpa [Fz] using h
  | .int i, v, h => by simpa [Fz] using h
  | .str x, v, h => by simpa [Fz] using h
  | .ty n, v, h => by simpa [Fz] using h
  | .lst ds, v, h => by
    simp only [Fz] at h ⊢
    obtain ⟨a, vs, e, r, q⟩ := h
    exact ⟨a, vs, e, m.lst _ _ r, FzL.leD m ds vs q⟩
  | .tup ds, v, h => by
    simp only [Fz] at h ⊢
    obtain ⟨a, vs, e, r, q⟩ := h
    exact ⟨a, vs, e, m.tup _ _ r, FzL.leD m ds vs q⟩
  | .dK ks ds, v, h => by
    simp only [Fz] at h ⊢
    obtain ⟨a, vs, e, r, l, q⟩ := h
    exact ⟨a, vs, e, m.dK _ _ r, l, FzL.leD m ds vs q⟩
  | .dT ks ds, v, h => by
    simp only [Fz] at h ⊢
    obtain ⟨a, vs, e, r, l, q⟩ := h
    exact ⟨a, vs, e, m.dT _ _ r, l, FzL.leD m ds vs q⟩
  | .obj c ns ds, v, h => by
    simp only [Fz] at h ⊢
    obtain ⟨a, dx, vs, e, r, l, q⟩ := h
    exact ⟨a, dx, vs, e, m.ins _ _ _ _ r, l, FzL.leD m ds vs q⟩
  | .exc a dd n x, v, h => by
    simp only [Fz] at h ⊢
    obtain ⟨e, fs, u, r, l, q⟩ := h
    exact ⟨e, fs, u, m.xd _ _ r, l, Fz.leD m x u q⟩
  | .kl K a ns, v, h => by
    simp only [Fz] at h ⊢
    exact ⟨h.1, h.2.imp (m.rl _ _) id⟩
theorem FzL.leD {G G' : Hp} (m : LeD G G') : ∀ (ds : List D) (vs : List V), FzL G ds vs → FzL G' ds vs
  | [], vs, h => by simpa [FzL] using h
  | d :: ds, vs, h => by
    simp only [FzL] at h ⊢
    obtain ⟨v, r, e, h1, h2⟩ := h
    exact ⟨v, r, e, Fz.leD m d v h1, FzL.leD m ds r h2⟩
end

def DictO (u : HO) : Prop := (∃ k, u = .dK k) ∨ ∃ k, u = .dT k
theorem upd_off {G : Hp} {a b : Addr} {u w o : HO} (h : G a = some w) (e : G b = some o) (hn : o ≠ w) : upd G a u b = some o := by
  have : b ≠ a := fun e' => by subst e'; rw [h] at e; cases e; exact hn rfl
  rw [upd_ne this]; exact e
theorem rd_lock {G : Hp} {a : Addr} {u : HO} {od : Obj} (h : G a = some u) (mu : DictO u) {b : Addr} {v : HO} (hr : Rd G b v) : Rd (upd G a (.frz od u)) b v := by
  by_cases hb : b = a
  · subst hb
    rcases hr with hr | ⟨o, hr⟩
    · rw [h] at hr; cases hr
      exact .inr ⟨od, upd_same⟩
    · rw [h] at hr; cases hr
      rcases mu with ⟨k, e⟩ | ⟨k, e⟩ <;> cases e
  · rcases hr with hr | ⟨o, hr⟩
    · exact .inl (by rw [upd_ne hb]; exact hr)
    · exact .inr ⟨o, by rw [upd_ne hb]; exact hr⟩
theorem rd_unlock {G : Hp} {a : Addr} {u : HO} {od : Obj} (h : G a = some (.frz od u)) {b : Addr} {v : HO} (hv : ∀ o w, v ≠ .frz o w) (hr : Rd G b v) : Rd (upd G a u) b v := by
  by_cases hb : b = a
  · subst hb
    rcases hr with hr | ⟨o, hr⟩
    · rw [h] at hr; cases hr
      exact absurd rfl (hv _ _)
    · rw [h] at hr; cases hr
      exact .inl upd_same
  · rcases hr with hr | ⟨o, hr⟩
    · exact .inl (by rw [upd_ne hb]; exact hr)
    · exact .inr ⟨o, by rw [upd_ne hb]; exact hr⟩
theorem lock_le {G : Hp} {a : Addr} {u : HO} {od : Obj} (h : G a = some u) (mu : DictO u) : LeD G (upd G a (.frz od u)) := by
  have ne : ∀ {o : HO}, (∀ k, o ≠ .dK k) → (∀ k, o ≠ .dT k) → o ≠ u := fun h1 h2 e => by
    rcases mu with ⟨k, e'⟩ | ⟨k, e'⟩
    · exact h1 k (e.trans e')
    · exact h2 k (e.trans e')
  exact ⟨fun b k hr => rd_lock h mu hr, fun b k hr => rd_lock h mu hr, fun b k hr => rd_lock h mu hr, fun b c dx fs e => upd_off h e (ne (fun _ z => nomatch z) (fun _ z => nomatch z)), fun b vs e => upd_off h e (ne (fun _ z => nomatch z) (fun _ z => nomatch z)), fun b vs e => upd_off h e (ne (fun _ z => nomatch z) (fun _ z => nomatch z)), fun b fs e => upd_off h e (ne (fun _ z => nomatch z) (fun _ z => nomatch z))⟩
theorem unlock_le {G : Hp} {a : Addr} {u : HO} {od : Obj} (h : G a = some (.frz od u)) : LeD G (upd G a u) :=
  ⟨fun b k hr => rd_unlock h (fun _ _ z => nomatch z) hr, fun b k hr => rd_unlock h (fun _ _ z => nomatch z) hr, fun b k hr => rd_unlock h (fun _ _ z => nomatch z) hr, fun b c dx fs e => upd_off h e (fun z => nomatch z), fun b vs e => upd_off h e (fun z => nomatch z), fun b vs e => upd_off h e (fun z => nomatch z), fun b fs e => upd_off h e (fun z => nomatch z)⟩
theorem Ow.leD {G G' H H' : Hp} (m : LeD G G') : ∀ {k : Nat} {d : D} {v : V} {fp : List Addr}, Ow G H k d v fp → (∀ a ∈ fp, ∀ o, H a = some o → H' a = some o) → Ow G' H' k d v fp
  | 0, d, v, fp, h, _ => ⟨Fz.leD m d v h.1, h.2⟩
  | k + 1, .lst ds, v, fp, h, q => by
    obtain ⟨a, vs, f, e, r, rfl, z⟩ := h
    exact ⟨a, vs, f, e, q a (by simp) _ r, rfl, z.mono fun d v g hg y => Ow.leD m y fun b hb => q b (List.mem_cons_of_mem _ (hg b hb))⟩
  | k + 1, .dK ks ds, v, fp, h, q => by
    obtain ⟨a, vs, f, e, r, l, rfl, z⟩ := h
    exact ⟨a, vs, f, e, q a (by simp) _ r, l, rfl, z.mono fun d v g hg y => Ow.leD m y fun b hb => q b (List.mem_cons_of_mem _ (hg b hb))⟩
  | k + 1, .dT ks ds, v, fp, h, q => by
    obtain ⟨a, vs, f, e, r, l, rfl, z⟩ := h
    exact ⟨a, vs, f, e, q a (by simp) _ r, l, rfl, z.mono fun d v g hg y => Ow.leD m y fun b hb => q b (List.mem_cons_of_mem _ (hg b hb))⟩
  | k + 1, .obj c ns ds, v, fp, h, q => by
    obtain ⟨a, dx, vs, f, e, r, l, rfl, z⟩ := h
    exact ⟨a, dx, vs, f, e, q a (by simp) _ r, l, rfl, z.mono fun d v g hg y => Ow.leD m y fun b hb => q b (List.mem_cons_of_mem _ (hg b hb))⟩
  | k + 1, .non, v, fp, h, _ => ⟨Fz.leD m _ v h.1, h.2⟩
  | k + 1, .bl b, v, fp, h, _ => ⟨Fz.leD m _ v h.1, h.2⟩
  | k + 1, .int b, v, fp, h, _ => ⟨Fz.leD m _ v h.1, h.2⟩
  | k + 1, .str b, v, fp, h, _ => ⟨Fz.leD m _ v h.1, h.2⟩
  | k + 1, .ty b, v, fp, h, _ => ⟨Fz.leD m _ v h.1, h.2⟩
  | k + 1, .tup b, v, fp, h, _ => ⟨Fz.leD m _ v h.1, h.2⟩
  | k + 1, .exc _ _ _ _, v, fp, h, _ => ⟨Fz.leD m _ v h.1, h.2⟩
  | k + 1, .kl _ _ _, v, fp, h, _ => ⟨Fz.leD m _ v h.1, h.2⟩
section
variable {σ0 σ : St} {G H G1 H1 G2 H2 : Hp} {F F1 F2 : Fps} {S S1 S2 : Sl} {p : Bool}
/-- the heap differs at a dict of the frozen part alone -/
theorem SR.at1 {a : Addr} {u w : HO} (r : SR σ0 G H σ S F) (hG : G a = some u) (m : LeD G (upd G a w)) (hw : ∀ us, w ≠ .tup us) : SR σ0 (upd G a w) (upd H a w) σ S F := by
  have off : ∀ i b, b ∈ F i → b ≠ a := fun i b h e => by subst e; rw [r.fs i b h] at hG; cases hG
  refine ⟨r.len, fun i c hc => ?_, r.out, r.nd, r.dj, fun i b h => by rw [upd_ne (off i b h)]; exact r.fs i b h, fun b o e => ?_, fun b us e => ?_⟩
  · obtain ⟨h1, h2, h3⟩ := r.row i c hc
    exact ⟨h1, fun k d e => by
      obtain ⟨v, e1, e2⟩ := h2 k d e
      exact ⟨v, e1, e2.leD m fun b hb o ho => by rw [upd_ne (off i b hb)]; exact ho⟩, h3⟩
  · by_cases hb : b = a
    · subst hb; rw [upd_same] at e ⊢; exact e
    · rw [upd_ne hb] at e ⊢; exact r.inc b o e
  · by_cases hb : b = a
    · subst hb; rw [upd_same] at e; exact absurd (Option.some.inj e) (hw us)
    · rw [upd_ne hb] at e ⊢; exact r.tp b us e
theorem SR.lock {a : Addr} {u : HO} (r : SR σ0 G H σ S F) (h : G a = some u) (mu : DictO u) (od : Obj) : SR σ0 (upd G a (.frz od u)) (upd H a (.frz od u)) σ S F := r.at1 h (lock_le h mu) fun _ z => nomatch z
theorem SR.unlock {a : Addr} {u : HO} {od : Obj} (r : SR σ0 G H σ S F) (h : G a = some (.frz od u)) (mu : DictO u) : SR σ0 (upd G a u) (upd H a u) σ S F := r.at1 h (unlock_le h) fun us e => by
  rcases mu with ⟨k, z⟩ | ⟨k, z⟩ <;> rw [z] at e <;> cases e
/-- a run under the lock, seen from outside -/
theorem Gr.unlock {a : Addr} {u : HO} {od : Obj} (r : SR σ0 G H σ S F) (h : G a = some u) (g : Gr p (upd G a (.frz od u)) (upd H a (.frz od u)) F S G1 H1 F1 S1) : Gr p G H F S (upd G1 a u) (upd H1 a u) F1 S1 := by
  have hH := r.inc _ _ h
  have ne : ∀ i, a ∉ F i := fun i hi => by rw [r.fs i a hi] at h; cases h
  refine ⟨fun b o e => ?_, fun b hb => ?_, fun b o e hn => ?_, fun i b hb => ?_, fun hp => ?_⟩
  · by_cases hba : b = a
    · subst hba; rw [h] at e; cases e; exact upd_same
    · rw [upd_ne hba]; exact g.up b o (by rw [upd_ne hba]; exact e)
  · by_cases hba : b = a
    · subst hba; exact .inl (by rw [h]; simp)
    · rw [upd_ne hba] at hb
      have := g.new b hb
      rw [upd_ne hba, upd_ne hba] at this; exact this
  · by_cases hba : b = a
    · subst hba; rw [hH] at e; cases e; exact upd_same
    · rw [upd_ne hba]; exact g.fr b o (by rw [upd_ne hba]; exact e) hn
  · rcases g.src i b hb with h1 | h1
    · exact .inl h1
    · by_cases hba : b = a
      · subst hba; rw [upd_same] at h1; cases h1
      · rw [upd_ne hba] at h1; exact .inr h1
  · obtain ⟨e1, e2, e3, e4⟩ := g.pure hp
    refine ⟨e1, e2, fun b o e => ?_, fun b hb => ?_⟩
    · by_cases hba : b = a
      · subst hba; rw [hH] at e; cases e; exact upd_same
      · rw [upd_ne hba]; exact e3 b o (by rw [upd_ne hba]; exact e)
    · by_cases hba : b = a
      · subst hba; exact .inl (by rw [h]; simp)
      · rw [upd_ne hba] at hb
        have := e4 b hb
        rw [upd_ne hba, upd_ne hba] at this; exact this
theorem VP.unlock {a : Addr} {u : HO} {od : Obj} {x : Vl} {v : V} {fp : List Addr} (hH : H a = some u) (h1 : G1 a = some (.frz od u)) (hx : x.b = false) (z : VP (upd H a (.frz od u)) F G1 H1 F1 x v fp) : VP H F (upd G1 a u) (upd H1 a u) F1 x v fp := by
  have ne : ∀ b ∈ fp, b ≠ a := fun b hb e => by subst e; rw [z.ns hx b hb] at h1; cases h1
  refine ⟨z.ow.leD (unlock_le h1) fun b hb o ho => by rw [upd_ne (ne b hb)]; exact ho, z.nd, fun h b hb => ?_, z.dj, fun h b hb => by rw [upd_ne (ne b hb)]; exact z.ns h b hb⟩
  rcases z.src h b hb with h2 | h2
  · exact .inl h2
  · rw [upd_ne (ne b hb)] at h2; exact .inr h2
end
/-! ### where a frozen dict is found -/
abbrev FP := Sl → Option (Nat × List Str)
def fpVar (i : Nat) : FP := fun S => match S[i]? with
  | some ⟨_, some (0, _)⟩ => some (i, [])
  | _ => none
def fpD (gp : FP) : Sl → Option D := fun S => match gp S with
  | some (i, fs) => (match S[i]? with
    | some ⟨_, some (0, d)⟩ => D.at (fs.map Stp.fl) d
    | _ => none)
  | none => none
def fpFld (C : Addr) (f : Str) (gp : FP) : FP := fun S => match gp S, fpD gp S with
  | some (i, fs), some (.obj c ns xs) => if c = C ∧ f ∈ ns then some (i, fs ++ [f]) else none
  | _, _ => none
theorem Fz.at {G : Hp} : ∀ (π : List Stp) {d c : D} {v : V}, Fz G d v → D.at π d = some c → ∃ u, PathV G π v u ∧ Fz G c u
  | [], d, c, v, h, e => by cases e; exact ⟨v, rfl, h⟩
  | .ix n :: π, d, c, v, h, e => by
    cases d <;> simp only [D.at] at e <;> first | (cases e; done) | skip
    rename_i xs
    split at e
    case h_2 => cases e
    rename_i x hx
    simp only [Fz] at h
    obtain ⟨a, vs, rfl, hG, fz⟩ := h
    obtain ⟨w, e1, e2⟩ := fz.get hx
    obtain ⟨u, p1, p2⟩ := Fz.at π e2 e
    exact ⟨u, ⟨a, vs, w, rfl, hG, e1, p1⟩, p2⟩
  | .fl s :: π, d, c, v, h, e => by
    cases d <;> simp only [D.at] at e <;> first | (cases e; done) | skip
    rename_i k ns xs
    split at e
    case h_2 => cases e
    rename_i x hx
    split at e
    case isFalse => cases e
    rename_i hs
    simp only [Fz] at h
    obtain ⟨a, dx, vs, rfl, hG, hl, fz⟩ := h
    obtain ⟨w, e1, e2⟩ := fz.get hx
    obtain ⟨u, p1, p2⟩ := Fz.at π e2 e
    exact ⟨u, ⟨a, k, dx, _, w, rfl, hG, lookup_zip hs e1, p1⟩, p2⟩
def VFp (X : Cx) (e : Expr) (gp : FP) : Prop := ∃ t, PE X e t ∧ ∀ σ0 σ G H S F Q, SR σ0 G H σ S F → (match gp S with
  | none => False
  | some (i, fs) => ∀ v u, σ[i]? = some (some v) → PathV G (fs.map Stp.fl) v u → Q u H) → t σ H Q
section
variable {X : Cx} {W : WX} {p q p' : Bool} {e ea eb ec : Expr} {es : List Expr} {pos apos : Pos}
variable {σ0 σ : St} {G H G1 H1 G2 H2 : Hp} {F F1 F2 : Fps} {S S1 S2 : Sl}
theorem vfp_var (i : Nat) {x : Str} {xp : Pos} (hN : X.N[i]? = some x := by rfl) (hv : Vis X.env.scope x := by first | exact Or.inl rfl | exact Or.inr (Or.inl rfl) | exact Or.inr (Or.inr rfl)) (hd : (x == ("__debug__" : Str)) = false := by decide)
    (hcd : (x == ("__classdict__" : Str)) = false := by decide) : VFp X (.Name x xp) (fpVar i) := by
  refine ⟨_, pe_var hN hv hd hcd, fun σ0 σ G H S F Q r hw => ?_⟩
  unfold fpVar at hw
  split at hw
  case h_1 => exact hw.elim
  rename_i j π e
  split at e
  case h_2 => cases e
  rename_i pin d hc
  cases e
  obtain ⟨_, h2, _⟩ := r.row i _ hc
  obtain ⟨v, e1, _⟩ := h2 _ _ rfl
  exact ⟨v, e1, hw v v e1 rfl⟩
/-- the dict itself, and where it stands -/
theorem fp_at {gp : FP} {i : Nat} {fs : List Str} {c : D} (r : SR σ0 G H σ S F) (h1 : gp S = some (i, fs)) (h2 : fpD gp S = some c) : ∃ v u, σ[i]? = some (some v) ∧ PathV G (fs.map Stp.fl) v u ∧ Fz G c u := by
  unfold fpD at h2
  rw [h1] at h2
  simp only at h2
  split at h2
  case h_2 => cases h2
  rename_i pin d hc
  obtain ⟨_, q2, _⟩ := r.row i _ hc
  obtain ⟨v, e1, e2⟩ := q2 _ _ rfl
  obtain ⟨u, p1, p2⟩ := Fz.at _ e2.1 h2
  exact ⟨v, u, e1, p1, p2⟩
theorem vfp_fld {C : Addr} {f : Str} {gp : FP} (h : VFp X ea gp) (c : Cls X.K C) (n : NoAttr X.K C f) (hb : attributeBase ea f X.env (eval ea X.env) = eval ea X.env := by rfl) : VFp X (.Attribute ea f pos) (fpFld C f gp) := by
  obtain ⟨t, t1, t2⟩ := h
  refine ⟨_, pe_fld t1 hb, fun σ0 σ G H S F Q r hw => ?_⟩
  unfold fpFld at hw
  split at hw
  case h_1 => exact hw.elim
  rename_i i9 fs9 e9
  split at e9
  case h_2 => cases e9
  rename_i i fs c' ns xs e1 e2
  split at e9
  case isFalse => cases e9
  rename_i hcond
  obtain ⟨rfl, hf⟩ := hcond
  cases e9
  refine t2 σ0 σ G H S F _ r ?_
  rw [e1]
  intro v u hσ hp
  obtain ⟨v', u', hσ', hp', fz⟩ := fp_at r e1 e2
  rw [hσ] at hσ'
  cases hσ'
  cases hp.det hp'
  simp only [Fz] at fz
  obtain ⟨a, dx, vs, rfl, hG, hl, fz⟩ := fz
  have hix : ns.idxOf f < vs.length := by rw [fz.length, ← hl]; exact List.idxOf_lt_length_of_mem hf
  have hlk := lookup_zip (vs := vs) hf (by simp [hix] : vs[ns.idxOf f]? = some vs[ns.idxOf f])
  refine ⟨a, c', dx, _, _, rfl, r.inc _ _ hG, c, n, hlk, hw v _ hσ ?_⟩
  rw [List.map_append]
  exact hp.snoc_fl hG hlk
/-! what is walked -/
def keysOf : D → Option (List D)
  | .dK ks _ => some (ks.map kD)
  | .dT ks _ => some (ks.map fun k => .tup (k.map kD))
  | _ => none
def itemsOf : D → Option (List D)
  | .dK ks ds => some ((ks.zip ds).map fun p => .tup [kD p.1, p.2])
  | _ => none
def valsOf : D → Option (List D)
  | .dK _ ds => some ds
  | _ => none
def gWalk (f : D → Option (List D)) (gp : FP) : Sl → R (List D) := fun S => match fpD gp S with
  | some c => (match f c with
    | some xs => .ok xs S
    | none => .stuck)
  | none => .stuck
theorem fz_key {G : Hp} (k : Key) : Fz G (kD k) (kV k) := by cases k <;> rfl
theorem itk_ok {b : Bool} {a : Addr} {od : Obj} {ks : List Key} {vs : List V} (h : G a = some (.frz od (.dK (ks.zip vs)))) (hl : ks.length = vs.length) : ItOk b (Itk a od (ks.zip vs)) G H (ks.map kD) := fun G' H' i1 i2 tp i3 i => by
  have ha := i2 _ _ (i1 _ _ h)
  refine ⟨fun d hd => ?_, fun hi => ⟨ha, by simpa [List.length_zip, ← hl] using hi⟩⟩
  have hi := (List.getElem?_eq_some_iff.mp hd).1
  refine ⟨⟨ha, by rw [List.length_zip, ← hl]; simpa using hi⟩, fun x H'' hy => ?_⟩
  obtain ⟨rfl, k, v, e1, rfl⟩ := hy
  have e2 : ks[i]? = some k := by
    have := congrArg (Option.map Prod.fst) e1
    rw [← List.getElem?_map] at this
    simpa [List.map_fst_zip, hl] using this
  rw [List.getElem?_map, e2] at hd
  cases hd
  exact .inl ⟨rfl, fz_key k⟩
theorem itkt_ok {b : Bool} {a : Addr} {od : Obj} {ks : List (List Key)} {vs : List V} (h : G a = some (.frz od (.dT (ks.zip vs)))) (hl : ks.length = vs.length) : ItOk b (Itkt a od (ks.zip vs)) G H (ks.map fun k => .tup (k.map kD)) := fun G' H' i1 i2 tp i3 i => by
  have ha := i2 _ _ (i1 _ _ h)
  refine ⟨fun d hd => ?_, fun hi => ⟨ha, by simpa [List.length_zip, ← hl] using hi⟩⟩
  have hi := (List.getElem?_eq_some_iff.mp hd).1
  refine ⟨⟨ha, by rw [List.length_zip, ← hl]; simpa using hi⟩, fun x H'' hy => ?_⟩
  obtain ⟨rfl, k, v, q, e1, rfl, hq⟩ := hy
  have e2 : ks[i]? = some k := by
    have := congrArg (Option.map Prod.fst) e1
    rw [← List.getElem?_map] at this
    simpa [List.map_fst_zip, hl] using this
  rw [List.getElem?_map, e2] at hd
  cases hd
  exact .inl ⟨rfl, q, _, rfl, tp _ _ hq, fz_keys⟩
theorem iti_ok {b : Bool} {a : Addr} {od : Obj} {ks : List Key} {ds : List D} {vs : List V} (h : G a = some (.frz od (.dK (ks.zip vs)))) (hl : ks.length = vs.length) (fz : FzL G ds vs) : ItOk b (Iti a od (ks.zip vs)) G H ((ks.zip ds).map fun p => .tup [kD p.1, p.2]) := fun G' H' i1 i2 tp i3 i => by
  have ha := i2 _ _ (i1 _ _ h)
  have hld := fz.length
  refine ⟨fun d hd => ?_, fun hi => ⟨ha, by rw [List.length_zip, ← hl]; simpa [List.length_zip, ← hld, ← hl] using hi⟩⟩
  have hi := (List.getElem?_eq_some_iff.mp hd).1
  refine ⟨⟨ha, by rw [List.length_zip, ← hl]; simpa [List.length_zip, ← hld, ← hl] using hi⟩, fun x H'' hy => ?_⟩
  obtain ⟨T, k, v, e1, rfl, hT, rfl⟩ := hy
  have e2 : ks[i]? = some k := by
    have := congrArg (Option.map Prod.fst) e1
    rw [← List.getElem?_map] at this
    simpa [List.map_fst_zip, hl] using this
  have e3 : vs[i]? = some v := by
    have := congrArg (Option.map Prod.snd) e1
    rw [← List.getElem?_map] at this
    simpa [List.map_snd_zip, hl] using this
  obtain ⟨d', e4, e5⟩ := fz.get' e3
  have e6 : (ks.zip ds)[i]? = some (k, d') := List.getElem?_zip_eq_some.mpr ⟨e2, e4⟩
  rw [List.getElem?_map, e6] at hd
  cases hd
  exact .inr ⟨T, _, [kV k, v], rfl, rfl, hT, rfl, .cons (fz_key k) (.cons (e5.inc i1) .nil)⟩
theorem itd_ok {b : Bool} {a : Addr} {od : Obj} {ks : List Key} {ds : List D} {vs : List V} (h : G a = some (.frz od (.dK (ks.zip vs)))) (hl : ks.length = vs.length) (fz : FzL G ds vs) : ItOk b (Itd a od (ks.zip vs)) G H ds := fun G' H' i1 i2 tp i3 i => by
  have ha := i2 _ _ (i1 _ _ h)
  have hld := fz.length
  refine ⟨fun d hd => ?_, fun hi => ⟨ha, by rw [List.length_zip, ← hl, Nat.min_self, hl, hld]; exact hi⟩⟩
  have hi := (List.getElem?_eq_some_iff.mp hd).1
  refine ⟨⟨ha, by rw [List.length_zip, ← hl, Nat.min_self, hl, hld]; exact hi⟩, fun x H'' hy => ?_⟩
  obtain ⟨rfl, k, e1⟩ := hy
  have e3 : vs[i]? = some x := by
    have := congrArg (Option.map Prod.snd) e1
    rw [← List.getElem?_map] at this
    simpa [List.map_snd_zip, hl] using this
  obtain ⟨d', e4, e5⟩ := fz.get' e3
  rw [e4] at hd
  cases hd
  exact .inl ⟨rfl, e5.inc i1⟩
end
end VL

set_option Elab.async false
set_option linter.all false
set_option autoImplicit false
set_option maxRecDepth 100000
namespace VL
open PySem PySem.Spec L2
open PyProof.Rows hiding St

/-! ### comprehensions over a frozen dict -/
section
variable {X : Cx} {W : WX} {p q p' : Bool} {e ea eb ec : Expr} {es : List Expr} {pos apos cpos : Pos}
variable {σ0 σ : St} {G H G1 H1 G2 H2 : Hp} {F F1 F2 : Fps} {S S1 S2 : Sl}
/-- where the dict stands, and that it is locked there -/
def Lk (G : Hp) (gp : FP) (σ : St) (S : Sl) : Prop := ∃ i fs v a od u, gp S = some (i, fs) ∧ σ[i]? = some (some v) ∧ PathV G (fs.map Stp.fl) v (.ref a) ∧ G a = some (.frz od u)
/-- what a walk through a dict needs -/
def VWk (X : Cx) (tg iter : Expr) (gp : FP) (f : D → Option (List D)) : Prop := ∃ wi : TI, PI X tg iter wi ∧ ∀ σ0 σ G H S F (R : It → Hp → Prop), SR σ0 G H σ S F → Lk G gp σ S →
  ∀ c xs, fpD gp S = some c → f c = some xs → (∀ J, ItOk false J G H xs → R J H) → wi σ H R
theorem lk_rd {gp : FP} {c : D} (r : SR σ0 G H σ S F) (l : Lk G gp σ S) (hc : fpD gp S = some c) : ∃ i fs v a od u, gp S = some (i, fs) ∧ σ[i]? = some (some v) ∧ PathV G (fs.map Stp.fl) v (.ref a) ∧ G a = some (.frz od u) ∧ Fz G c (.ref a) := by
  obtain ⟨i, fs, v, a, od, u, h1, h2, h3, h4⟩ := l
  obtain ⟨v', u', e1, e2, e3⟩ := fp_at r h1 hc
  rw [h2] at e1
  cases e1
  cases h3.det e2
  exact ⟨i, fs, v, a, od, u, h1, h2, h3, h4, e3⟩
theorem fz_nlk {ks : List Key} {ds : List D} {a : Addr} {od : Obj} {u : HO} (h : Fz G (.dK ks ds) (.ref a)) (hl : G a = some (.frz od u)) : ∃ vs, u = .dK (ks.zip vs) ∧ ks.length = vs.length ∧ FzL G ds vs := by
  simp only [Fz] at h
  obtain ⟨a', vs, e, rd, l, z⟩ := h
  cases e
  refine ⟨vs, ?_, by rw [l, z.length], z⟩
  rcases rd with q | ⟨o, q⟩ <;> rw [hl] at q <;> cases q
  rfl
theorem fz_nlkT {ks : List (List Key)} {ds : List D} {a : Addr} {od : Obj} {u : HO} (h : Fz G (.dT ks ds) (.ref a)) (hl : G a = some (.frz od u)) : ∃ vs, u = .dT (ks.zip vs) ∧ ks.length = vs.length ∧ FzL G ds vs := by
  simp only [Fz] at h
  obtain ⟨a', vs, e, rd, l, z⟩ := h
  cases e
  refine ⟨vs, ?_, by rw [l, z.length], z⟩
  rcases rd with q | ⟨o, q⟩ <;> rw [hl] at q <;> cases q
  rfl
theorem vfp_run {gp : FP} {t : TE} {Q : VK} (t2 : ∀ σ0 σ G H S F Q, SR σ0 G H σ S F → (match gp S with
  | none => False
  | some (i, fs) => ∀ v u, σ[i]? = some (some v) → PathV G (fs.map Stp.fl) v u → Q u H) → t σ H Q) (r : SR σ0 G H σ S F) {i : Nat} {fs : List Str} {v u : V} (h1 : gp S = some (i, fs)) (h2 : σ[i]? = some (some v)) (h3 : PathV G (fs.map Stp.fl) v u) (hq : Q u H) : t σ H Q := by
  refine t2 σ0 σ G H S F Q r ?_
  rw [h1]
  intro v' u' e1 e2
  rw [h2] at e1
  cases e1
  cases h3.det e2
  exact hq
theorem vwk_keys {tg : Expr} {gp : FP} (h : VFp X e gp) : VWk X tg e gp keysOf := by
  obtain ⟨t, t1, t2⟩ := h
  refine ⟨_, pi_keys t1, fun σ0 σ G H S F R r l c xs hc hx hq => ?_⟩
  obtain ⟨i, fs, v, a, od, u, h1, h2, h3, h4, fz⟩ := lk_rd r l hc
  refine vfp_run t2 r h1 h2 h3 ⟨a, od, rfl, ?_⟩
  cases c <;> simp only [keysOf] at hx <;> first | (cases hx; done) | skip
  · cases hx
    obtain ⟨vs, rfl, hl, z⟩ := fz_nlk fz h4
    exact .inl ⟨_, r.inc _ _ h4, hq _ (itk_ok h4 hl)⟩
  · cases hx
    obtain ⟨vs, rfl, hl, z⟩ := fz_nlkT fz h4
    exact .inr ⟨_, r.inc _ _ h4, hq _ (itkt_ok h4 hl)⟩
theorem vwk_items {elts : List Expr} {kk : Nat} {tpos : Pos} {gp : FP} (h : VFp X e gp) (hbase : attributeBase e "items" X.env (eval e X.env) = eval e X.env := by rfl) (hline : (apos.endLine == cpos.line) = true := by rfl) :
    VWk X (.Tuple elts kk tpos) (.Call (.Attribute e "items" apos) [] [] cpos) gp itemsOf := by
  obtain ⟨t, t1, t2⟩ := h
  refine ⟨_, pi_items t1 hbase hline, fun σ0 σ G H S F R r l c xs hc hx hq => ?_⟩
  obtain ⟨i, fs, v, a, od, u, h1, h2, h3, h4, fz⟩ := lk_rd r l hc
  cases c <;> simp only [itemsOf] at hx <;> first | (cases hx; done) | skip
  cases hx
  obtain ⟨vs, rfl, hl, z⟩ := fz_nlk fz h4
  exact vfp_run t2 r h1 h2 h3 ⟨a, od, _, rfl, r.inc _ _ h4, hq _ (iti_ok h4 hl z)⟩
theorem vwk_vals {tg : Expr} {gp : FP} (h : VFp X e gp) (hbase : attributeBase e "values" X.env (eval e X.env) = eval e X.env := by rfl) (hline : (apos.endLine == cpos.line) = true := by rfl) : VWk X tg (.Call (.Attribute e "values" apos) [] [] cpos) gp valsOf := by
  obtain ⟨t, t1, t2⟩ := h
  refine ⟨_, pi_values t1 hbase hline, fun σ0 σ G H S F R r l c xs hc hx hq => ?_⟩
  obtain ⟨i, fs, v, a, od, u, h1, h2, h3, h4, fz⟩ := lk_rd r l hc
  cases c <;> simp only [valsOf] at hx <;> first | (cases hx; done) | skip
  cases hx
  obtain ⟨vs, rfl, hl, z⟩ := fz_nlk fz h4
  exact vfp_run t2 r h1 h2 h3 ⟨a, od, _, rfl, r.inc _ _ h4, hq _ (itd_ok h4 hl z)⟩
theorem PathV.off {d : Addr} {o u : HO} (hd : G d = some u) (h1 : ∀ vs, u ≠ .lst vs) (h2 : ∀ c dx fs, u ≠ .ins c dx fs) : ∀ {π : List Stp} {v w : V}, PathV G π v w → PathV (upd G d o) π v w
  | [], v, w, h => h
  | .ix n :: π, v, w, h => by
    obtain ⟨a, vs, x, e1, e2, e3, e4⟩ := h
    exact ⟨a, vs, x, e1, by rw [upd_ne fun e => by subst e; rw [hd] at e2; cases e2; exact h1 _ rfl]; exact e2, e3, PathV.off hd h1 h2 e4⟩
  | .fl s :: π, v, w, h => by
    obtain ⟨a, c, dx, fs, x, e1, e2, e3, e4⟩ := h
    exact ⟨a, c, dx, fs, x, e1, by rw [upd_ne fun e => by subst e; rw [hd] at e2; cases e2; exact h2 _ _ _ rfl]; exact e2, e3, PathV.off hd h1 h2 e4⟩
theorem gLc_wp {vs : List Nat} {pu : Bool} {gi : Sl → R (List D)} {ga : D → Sl → Option Sl} {gt : Sl → R Bool} {ge : Sl → R D} {xs : List D} {A A' : Vl → Sl → Prop} {B B' : Addr → Option (Str × D) → Sl → Prop}
    (hg : gi S = .ok xs S) (h : (gLc pu vs gi ga gt ge S).wp A B) (m : ∀ x S', x.b = false → A x S' → A' x S') : (gLc pu vs gi ga gt ge S).wp A' B' := by
  unfold gLc at h ⊢
  rw [hg] at h ⊢
  simp only [R.bind] at h ⊢
  split at h
  case isFalse => exact h.elim
  rename_i hc
  rw [if_pos hc]
  cases hl : (loopLc pu vs ga gt ge xs (S.wipe vs)) with
  | stuck => rw [hl] at h; exact h.elim
  | err c w s => rw [hl] at h; exact h.elim
  | ok ys s => rw [hl] at h; exact m _ _ rfl h
theorem ve_lcW {elt tg iter : Expr} {ifs : List Expr} {scope : Scope} {own : List (Str × Nat)} {vs' : List Nat} {pu : Bool} {gp : FP} {f : D → Option (List D)} {ga : D → Sl → Option Sl} {gt : Sl → R Bool} {ge : Sl → R D} (hf : ∀ c xs, f c = some xs → (∃ ks ds, c = .dK ks ds) ∨ ∃ ks ds, c = .dT ks ds)
    (hc : X.calm = true) (hN : X.N.Nodup) (hi : VWk X tg iter gp f) (ok : BlkOk X.N X.env.scope scope own)
    (hg : ∀ (s : Shared) (H : Hp) (C : Addr) (cl : List (Str × Addr)) (fp : List Addr), VG (X.blk s H scope (compEnvC scope cl C X.env) fp) tg vs' ga)
    (ht : ∀ (s : Shared) (H : Hp) (C : Addr) (cl : List (Str × Addr)) (fp : List Addr), VTs q (X.blk s H scope (compEnvC scope cl C X.env) fp) W0 ifs gt)
    (he : ∀ (s : Shared) (H : Hp) (C : Addr) (cl : List (Str × Addr)) (fp : List Addr), VD p' (X.blk s H scope (compEnvC scope cl C X.env) fp) W0 elt ge)
    (hv : vs'.all (fun v => (own.map (·.2)).contains v) = true) (hpu : pu = (q && p')) (hs : ∀ x, foldedSetIterable iter X.env x = pure x := by intro _; rfl) :
    VE pu X W (.ListComp elt [⟨tg, iter, ifs, 0⟩] scope pos) (gLc pu (own.map (·.2)) (gWalk f gp) ga gt ge) := by
  obtain ⟨wi, i1, i2⟩ := hi
  have P := pe_lc (pos := pos) hc hN i1 ok (fun s H C cl fp => (hg s H C cl fp).can) (fun s H C cl fp => (ht s H C cl fp).can) (fun s H C cl fp => (he s H C cl fp).can) hs
  have P2 := pe_lock P
  refine ⟨fun σ H Q => tLockE _ σ H Q ∨ _, ⟨fun pins s σ H Q I hw => hw.elim (P2.run pins s σ H Q I) (P.run pins s σ H Q I)⟩, fun σ0 σ G H S F Q r hw => ?_⟩
  -- what is walked
  obtain ⟨c, hcc, xs, hxs, hgi⟩ : ∃ c, fpD gp S = some c ∧ ∃ xs, f c = some xs ∧ gWalk f gp S = .ok xs S := by
    unfold gWalk
    cases h1 : fpD gp S with
    | none => simp only [gLc, gWalk, h1, R.bind] at hw; exact hw.elim
    | some c =>
      cases h2 : f c with
      | none => simp only [gLc, gWalk, h1, h2, R.bind] at hw; exact hw.elim
      | some xs => exact ⟨c, rfl, xs, h2, by simp only [h2]⟩
  obtain ⟨i, fs, h1⟩ : ∃ i fs, gp S = some (i, fs) := by
    unfold fpD at hcc
    cases h : gp S with
    | none => rw [h] at hcc; cases hcc
    | some x => exact ⟨x.1, x.2, rfl⟩
  obtain ⟨v, u, e1, e2, fz⟩ := fp_at r h1 hcc
  obtain ⟨a, hu, w, hw0, hr⟩ : ∃ a, u = .ref a ∧ ∃ w, DictO w ∧ Rd G a w := by
    rcases hf c xs hxs with ⟨ks, ds, rfl⟩ | ⟨ks, ds, rfl⟩
    · simp only [Fz] at fz
      obtain ⟨a, vs, e, rd, _⟩ := fz
      exact ⟨a, e, _, .inl ⟨_, rfl⟩, rd⟩
    · simp only [Fz] at fz
      obtain ⟨a, vs, e, rd, _⟩ := fz
      exact ⟨a, e, _, .inr ⟨_, rfl⟩, rd⟩
  subst hu
  have sem : ∀ {G H : Hp} {Q : VK}, SR σ0 G H σ S F → Lk G gp σ S → (gLc pu (own.map (·.2)) (gWalk f gp) ga gt ge S).wp (OkV pu σ0 σ G H S F Q) (OkE σ0 σ G H S F W0) → tLc wi (tVG vs' ga) (tVT q W0 gt) (tVD p' W0 ge) (own.map (·.2)) σ H Q := fun {G H Q} r l hw => by
    have hw' : (gLc pu (own.map (·.2)) (gWalk f gp) ga gt ge S).wp (OkV (true && pu) σ0 σ G H S F Q) (OkE σ0 σ G H S F W0) := by rw [Bool.true_and]; exact hw
    refine lc_sem (p := true) (b := false) (fun Q h => ?_) hv hpu (fun h => nomatch h) r hw'
    rw [hgi] at h
    exact i2 σ0 σ G H S F Q r l c xs hcc hxs fun J it => h J G H F r (.refl r) it
  rcases hr with hr | ⟨od, hr⟩
  · refine .inl ⟨a, w, r.inc _ _ hr, by rcases hw0 with ⟨k, rfl⟩ | ⟨k, rfl⟩ <;> trivial, fun od => ?_⟩
    have r1 := r.lock hr hw0 od
    have ne1 : ∀ vs, w ≠ .lst vs := fun vs e => by rcases hw0 with ⟨k, z⟩ | ⟨k, z⟩ <;> rw [z] at e <;> cases e
    have ne2 : ∀ c dx fs, w ≠ .ins c dx fs := fun c dx fs e => by rcases hw0 with ⟨k, z⟩ | ⟨k, z⟩ <;> rw [z] at e <;> cases e
    refine sem r1 ⟨i, fs, v, a, od, w, h1, e1, e2.off hr ne1 ne2, upd_same⟩ ?_
    refine gLc_wp hgi hw fun x S' hx hk v fp G' H' F' r' g' z' => ?_
    have hG' : G' a = some (.frz od w) := g'.up _ _ upd_same
    exact ⟨r'.inc _ _ hG', hk v fp _ _ F' (r'.unlock hG' hw0) (Gr.unlock r hr g') (VP.unlock (r.inc _ _ hr) hG' hx z')⟩
  · exact .inr (sem r ⟨i, fs, v, a, od, w, h1, e1, e2, hr⟩ (gLc_wp hgi hw fun x S' _ h => h))
theorem wk_keys : ∀ c xs, keysOf c = some xs → (∃ ks ds, c = .dK ks ds) ∨ ∃ ks ds, c = .dT ks ds := fun c xs h => by
  cases c <;> simp only [keysOf] at h <;> first | (cases h; done) | exact .inl ⟨_, _, rfl⟩ | exact .inr ⟨_, _, rfl⟩
theorem wk_items : ∀ c xs, itemsOf c = some xs → (∃ ks ds, c = .dK ks ds) ∨ ∃ ks ds, c = .dT ks ds := fun c xs h => by
  cases c <;> simp only [itemsOf] at h <;> first | (cases h; done) | exact .inl ⟨_, _, rfl⟩
theorem wk_vals : ∀ c xs, valsOf c = some xs → (∃ ks ds, c = .dK ks ds) ∨ ∃ ks ds, c = .dT ks ds := fun c xs h => by
  cases c <;> simp only [valsOf] at h <;> first | (cases h; done) | exact .inl ⟨_, _, rfl⟩
end
end VL

set_option Elab.async false
set_option linter.all false
set_option autoImplicit false
set_option maxRecDepth 100000
namespace VL
open PySem PySem.Spec L2
open PyProof.Rows hiding St

/-! ### an owned thing is lent to a pure expression that gives bare data -/
mutual
def bare : D → Bool
  | .non => true
  | .bl _ => true
  | .int _ => true
  | .str _ => true
  | .ty _ => true
  | .tup ds => bareL ds
  | _ => false
def bareL : List D → Bool
  | [] => true
  | d :: ds => bare d && bareL ds
end
mutual
theorem Fz.bare {G G' : Hp} (m : ∀ a us, G a = some (.tup us) → G' a = some (.tup us)) : ∀ (d : D) (v : V), bare d = true → Fz G d v → Fz G' d v
  | .non, v, _, h => by simpa [Fz] using h
  | .bl b, v, _, h => by simpa [Fz] using h
  | .int i, v, _, h => by simpa [Fz] using h
  | .str x, v, _, h => by simpa [Fz] using h
  | .ty n, v, _, h => by simpa [Fz] using h
  | .lst ds, v, b, h => nomatch b
  | .tup ds, v, b, h => by
    simp only [Fz] at h ⊢
    obtain ⟨a, vs, e, r, q⟩ := h
    exact ⟨a, vs, e, m _ _ r, FzL.bare m ds vs b q⟩
  | .dK ks ds, v, b, h => nomatch b
  | .dT ks ds, v, b, h => nomatch b
  | .obj c ns ds, v, b, h => nomatch b
  | .exc a dd n x, v, b, h => nomatch b
  | .kl K a ns, v, b, h => nomatch b
theorem FzL.bare {G G' : Hp} (m : ∀ a us, G a = some (.tup us) → G' a = some (.tup us)) : ∀ (ds : List D) (vs : List V), bareL ds = true → FzL G ds vs → FzL G' ds vs
  | [], vs, _, h => by simpa [FzL] using h
  | d :: ds, vs, b, h => by
    simp only [FzL] at h ⊢
    obtain ⟨v, r, e, h1, h2⟩ := h
    obtain ⟨b1, b2⟩ := Bool.and_eq_true_iff.mp b
    exact ⟨v, r, e, Fz.bare m d v b1 h1, FzL.bare m ds r b2 h2⟩
end
def gLend (i : Nat) (g : Sl → R D) : Sl → R D := fun S => match S[i]? with
  | some ⟨_, some (_, d)⟩ => (match g (S.put i (some (0, d))) with
    | .ok x _ => if bare x then .ok x S else .stuck
    | _ => .stuck)
  | _ => .stuck
section
variable {X : Cx} {W : WX} {p q p' : Bool} {e ea eb ec : Expr} {es : List Expr} {pos apos cpos : Pos}
variable {σ0 σ : St} {G H G1 H1 G2 H2 : Hp} {F F1 F2 : Fps} {S S1 S2 : Sl}
/-- the state with slot i frozen -/
theorem SR.frozen {i : Nat} {pin : Bool} {k : Nat} {d : D} (r : SR σ0 G H σ S F) (hc : S[i]? = some ⟨pin, some (k, d)⟩) : SR σ0 (frzd G H (F i)) H σ (S.put i (some (0, d))) (fpPut F i []) := by
  obtain ⟨_, h2, _⟩ := r.row i _ hc
  obtain ⟨v, e1, e2⟩ := h2 k d rfl
  have hi : Inc G (frzd G H (F i)) := frzd_inc fun a h => r.fs i a h
  have z : Fz (frzd G H (F i)) d v := e2.fz hi fun a h o ho => by rw [frzd_at h]; exact ho
  have r2 : SR σ0 G H σ (S.put i none) (fpPut F i []) := r.put hc rfl (fun _ _ => rfl) (fun _ => rfl) (fun _ _ e => nomatch e) (fun _ => rfl) .nil (fun _ _ a h => by simp at h) fun a h => by simp at h
  refine ⟨by rw [put_length]; exact r.len, fun j cj hj => ?_, fun j hj => ?_, r2.nd, r2.dj, fun j a h => ?_, fun a o h => ?_, frzd_tup r.tp⟩
  · rw [put_at hc] at hj
    by_cases hji : j = i
    · subst hji
      rw [if_pos rfl] at hj; cases hj
      refine ⟨(r.row j _ hc).1, fun k' d' e => ?_, fun e => nomatch e⟩
      cases e
      exact ⟨v, e1, z, by simp [fpPut]⟩
    · rw [if_neg hji] at hj
      obtain ⟨h1, h2, h3⟩ := r.row j cj hj
      simp only [fpPut, if_neg hji]
      refine ⟨h1, fun k' d' e => ?_, h3⟩
      obtain ⟨u, q1, q2⟩ := h2 k' d' e
      exact ⟨u, q1, q2.keep hi fun _ _ _ h => h⟩
  · rw [put_length] at hj
    exact r2.out j (by rw [put_length]; exact hj)
  · by_cases hji : j = i
    · simp [fpPut, hji] at h
    · simp only [fpPut, if_neg hji] at h
      rw [frzd_ne fun h' => hji (r.dj j i a h h')]
      exact r.fs j a h
  · by_cases hf : a ∈ F i
    · rw [frzd_at hf] at h; exact h
    · rw [frzd_ne hf] at h; exact r.inc a o h
theorem vd_lend (i : Nat) {g : Sl → R D} (h : VD true X W e g) : VD true X W e (gLend i g) := by
  obtain ⟨t, t1, t2⟩ := h
  refine ⟨t, t1, fun σ0 σ G H S F Q r hw => ?_⟩
  unfold gLend at hw
  split at hw
  case h_2 => exact hw.elim
  rename_i pin k d hc
  split at hw
  case h_2 => exact hw.elim
  rename_i x S' hg
  split at hw
  case isFalse => exact hw.elim
  rename_i hb
  refine t2 σ0 σ _ H _ _ Q (r.frozen hc) ?_
  rw [hg]
  intro v G' H' F' r' g' z
  obtain ⟨eS, eF, hH, hnew⟩ := g'.pure rfl
  subst eS
  subst eF
  have hi : Inc G (frzd G H (F i)) := frzd_inc fun a h => r.fs i a h
  have ntup : ∀ a us, H' a = some (.tup us) → a ∉ F i := fun a us e ha => by
    obtain ⟨o, ho⟩ := r.dom ha
    have := hH a o ho
    rw [e] at this
    cases this
    have := r.tp a us ho
    rw [r.fs i a ha] at this; cases this
  have up : Inc G (frzd G' G (F i)) := fun a o e => by
    rw [frzd_ne fun h => by rw [r.fs i a h] at e; cases e]
    exact g'.up a o (hi a o e)
  have r3 : SR σ0 (frzd G' G (F i)) H' σ S F := by
    refine ⟨r.len, fun j c hj => ?_, r.out, r.nd, r.dj, fun j a h => ?_, fun a o h => ?_, fun a us h => ?_⟩
    · obtain ⟨h1, h2, h3⟩ := r.row j c hj
      refine ⟨h1, fun k' d' e => ?_, h3⟩
      obtain ⟨u, q1, q2⟩ := h2 k' d' e
      exact ⟨u, q1, q2.keep up fun a _ o h => hH a o h⟩
    · by_cases ha : a ∈ F i
      · rw [frzd_at ha]; exact r.fs i a ha
      · rw [frzd_ne ha]
        have hji : j ≠ i := fun e => ha (e ▸ h)
        exact r'.fs j a (by simp only [fpPut, if_neg hji]; exact h)
    · by_cases ha : a ∈ F i
      · rw [frzd_at ha, r.fs i a ha] at h; cases h
      · rw [frzd_ne ha] at h; exact r'.inc a o h
    · rw [frzd_ne (ntup a us h)]; exact r'.tp a us h
  have nw : ∀ a, frzd G' G (F i) a ≠ none → G a ≠ none ∨ H a = none := fun a h => by
    by_cases ha : a ∈ F i
    · rw [frzd_at ha] at h; exact .inl h
    · rw [frzd_ne ha] at h
      rcases hnew a h with h | h
      · rw [frzd_ne ha] at h; exact .inl h
      · exact .inr h
  refine hw v _ H' F r3 ⟨up, fun a h => (nw a h).elim .inl fun h => .inr (.inr h), fun a o h _ => hH a o h, fun j a h => .inl ⟨j, h⟩, fun _ => ⟨rfl, rfl, hH, nw⟩⟩ ?_
  refine z.bare (fun a us h => ?_) x v hb
  rw [frzd_ne (ntup a us (r'.inc a _ h))]; exact h
end
end VL

set_option Elab.async false
set_option linter.all false
set_option autoImplicit false
set_option maxRecDepth 100000
namespace VL
open PySem PySem.Spec L2
open PyProof.Rows hiding St
section
variable {X : Cx} {W : WX} {p q p' : Bool} {e ea eb ec : Expr} {es : List Expr} {pos apos cpos : Pos}
variable {σ0 σ : St} {G H G1 H1 G2 H2 : Hp} {F F1 F2 : Fps} {S S1 S2 : Sl}
/-- -x -/
def gNeg (g : Sl → R D) : Sl → R D := fun S => (g S).bind fun x S1 => match x with
  | .int i => .ok (.int (-i)) S1
  | _ => .stuck
theorem vd_neg {g : Sl → R D} (a : VD p X W e g) : VD p X W (.UnaryOp .USub e pos) (gNeg g) := by
  obtain ⟨ta, a1, a2⟩ := a
  refine ⟨_, pe_un un_neg a1, fun σ0 σ G H S F Q r hw => ?_⟩
  refine VD.then (t := ta) a2 r hw fun x S1 v G1 H1 F1 r1 g1 z1 hw1 => ?_
  cases x <;> first | exact hw1.elim | skip
  rename_i i
  simp only [Fz] at z1
  exact ⟨i, z1, hw1 _ G1 H1 F1 r1 g1 rfl⟩
/-- tuple(range(n)) -/
def gTRange (g : Sl → R D) : Sl → R D := fun S => (g S).bind fun d S1 => match dLRange [d] with | some xs => .ok (.tup xs) S1 | none => .stuck
theorem vd_trange {xp xr pr : Pos} {g : Sl → R D} (h : VD p X W e g) (hc : X.calm = true) (hm : X.mg "range" = none) (hml : X.mg "tuple" = none) (hg : Gl X "range" := by rfl) (hgl : Gl X "tuple" := by rfl) (na : starEach [e] X.env = (false, eval e X.env) :: starEach [] X.env := by rfl)
    (na2 : starEach [.Call (.Name "range" xr) [e] [] pr] X.env = (false, eval (.Call (.Name "range" xr) [e] [] pr) X.env) :: starEach [] X.env := by rfl) : VD p X W (.Call (.Name "tuple" xp) [.Call (.Name "range" xr) [e] [] pr] [] pos) (gTRange g) := by
  obtain ⟨t, t1, t2⟩ := h
  refine ⟨_, pe_tupRg hc hgl hml (prg_1 hg hm t1 na) na2, fun σ0 σ G H S F Q r hw => ?_⟩
  refine VD.then (t := t) t2 r hw fun d S1 v G1 H1 F1 r1 g1 z1 hw1 => ?_
  cases d <;> first | exact hw1.elim | skip
  rename_i j
  simp only [dLRange] at hw1
  split at hw1
  case h_2 => exact hw1.elim
  rename_i xs hx
  split at hx
  case isFalse => cases hx
  rename_i hj
  cases hx
  simp only [Fz] at z1
  subst z1
  refine ⟨j, rfl, ⟨by omega, by omega, by omega, by omega, by omega⟩, ?_⟩
  have e0 : (j - 0).toNat = j.toNat := by rw [Int.sub_zero]
  unfold rgV
  rw [e0]
  exact new_tup (S' := S1) r1 g1 fzL_range hw1
/-- slot i is frozen, then the statement runs -/
def gFzS (i : Nat) (g : Sl → R Out) : Sl → R Out := fun S => match S[i]? with
  | some ⟨_, some (_, d)⟩ => g (S.put i (some (0, d)))
  | _ => .stuck
theorem Gr.frozen {i : Nat} {S' : Sl} (r : SR σ0 G H σ S F) : Gr false G H F S (frzd G H (F i)) H (fpPut F i []) S' := by
  refine ⟨frzd_inc fun a h => r.fs i a h, fun a h => ?_, fun _ _ h _ => h, fun j a h => ?_, fun h => nomatch h⟩
  · by_cases hf : a ∈ F i
    · exact .inr (.inl ⟨i, hf⟩)
    · rw [frzd_ne hf] at h; exact .inl h
  · by_cases hj : j = i
    · simp [fpPut, hj] at h
    · simp only [fpPut, if_neg hj] at h; exact .inl ⟨j, h⟩
theorem vs_fzS (i : Nat) {st : Stmt} {g : Sl → R Out} (h : VS X W st g) : VS X W st (gFzS i g) := by
  obtain ⟨t, t1, t2⟩ := h
  refine ⟨t, t1, fun σ0 σ G H S F D r hw => ?_⟩
  unfold gFzS at hw
  split at hw
  case h_2 => exact hw.elim
  rename_i pin k d hc
  exact t2 σ0 σ _ H _ _ D (r.frozen hc) (R.wp_mono hw (fun _ _ h => h.from (Gr.frozen r)) fun _ _ _ h => h.from (Gr.frozen r))
def gWhile (n : Nat) (gc : Sl → R Bool) (gb : Sl → R Out) : Sl → R Out := fun S => loopWhile gc gb n S
theorem vs_whileN (n : Nat) {c : Expr} {body : List Stmt} {gc : Sl → R Bool} {gb : Sl → R Out} (hp : PassesOwn (model X.prog X.w) X.A X.env X.xe) (hc : VT p X W c gc) (hb : VSs X W body gb) : VS X W (.While c body [] pos) (gWhile n gc gb) := vs_while (fun _ => n) hp hc hb
theorem al_nil {α : Type} {Pr : α → Prop} : ∀ x ∈ ([] : List α), Pr x := fun x h => by simp at h
theorem al_cons {α : Type} {Pr : α → Prop} {a : α} {l : List α} (h : Pr a) (t : ∀ x ∈ l, Pr x) : ∀ x ∈ a :: l, Pr x := fun x hx => by
  rcases List.mem_cons.mp hx with rfl | hx
  · exact h
  · exact t x hx
end
end VL

set_option Elab.async false
set_option linter.all false
set_option autoImplicit false
set_option maxRecDepth 100000
namespace VL
open PySem PySem.Spec L2
open PyProof.Rows hiding St
section
variable {X : Cx} {G H : Hp}
/-! ### sum of a tuple, any of ints -/
def rSumT (K : PySem.W.Frag) : List V → Hp → VK → Prop := fun vs H Q => ∃ (a : Addr) (ns : List Int), vs = [V.ref a] ∧ SqT K H a (ns.map V.int) ∧ Q (.int ns.sum) H
theorem cr_sumT (hc : X.calm = true) : CallR X (.builtin "sum") (rSumT X.K) := by
  intro pins s σ H vs us Q I r h
  obtain ⟨a, ns, rfl, hs, q⟩ := h
  obtain ⟨its, rv, hl, _⟩ := I.tuple hs
  rw [Vals.ref1 r]
  obtain ⟨xs, e⟩ := rv.ints.allInts.items
  have hn : numsOf (intItems xs).toList = ns := by rw [← e]; exact rv.ints.numsOf
  rw [nums_intItems] at hn
  rw [e] at hl
  have hl' : s.heap.IsTuple a (intItems xs) := by
    obtain ⟨o, e1, e2, n, e3⟩ := hl
    exact ⟨o, e1, e2, n, e3⟩
  refine PySem.W.ktm_sumG (I.ok.hd hc) hl' fun h' tk t' hk => ?_
  refine ⟨.int _, H, I.kept hk, ⟨t', rfl⟩, ?_⟩
  rw [preSum_eq, List.take_of_length_le (by simp), hn]; exact q
def dSumS : D → Option D
  | .lst ds => (D.ints ds).map fun ns => .int ns.sum
  | .tup ds => (D.ints ds).map fun ns => .int ns.sum
  | _ => none
theorem cv_sumS : CallV (fun vs H Q => rSum X.K vs H Q ∨ rSumT X.K vs H Q) dSumS := by
  intro x d hd G H v Q z m k
  cases x <;> simp only [dSumS] at hd <;> first | (cases hd; done) | skip
  · rename_i ds
    simp only [Option.map_eq_some_iff] at hd
    obtain ⟨ns, h1, rfl⟩ := hd
    rw [D.ints_map h1] at z
    obtain ⟨a, rfl, r⟩ := z.ints m
    exact .inl ⟨a, ns, rfl, .of r, k _ rfl⟩
  · rename_i ds
    simp only [Option.map_eq_some_iff] at hd
    obtain ⟨ns, h1, rfl⟩ := hd
    rw [D.ints_map h1] at z
    obtain ⟨a, vs, rfl, r, q⟩ := z.tup m
    exact .inr ⟨a, ns, rfl, .inl (.inl (by rw [r, q.ints])), k _ rfl⟩
theorem truth_ints {prog : Program} {w : World} {A : Around} {ns : List Int} {its : List Value} (e : IntsAre its ns) :
    TruthOf prog w A (fun i v => its.toArray[i]? = some v) (fun i => (ns.map fun n => n != 0).getD i false) := fun i v s Q E hv hq => by
  have hv' : its[i]? = some v := by simpa using hv
  have aux : ∀ {us : List Value} {ms : List Int}, IntsAre us ms → ∀ i : Nat, us[i]? = some v → ∃ n t, v = .int n t ∧ ms[i]? = some n := by
    intro us ms h
    induction h with
    | nil => intro i h; simp at h
    | cons n k h ih =>
      intro i hi
      cases i with
      | zero => simp at hi; exact ⟨_, _, hi.symm, rfl⟩
      | succ i => exact ih i (by simpa using hi)
  obtain ⟨n, t, rfl, hn⟩ := aux e i hv'
  have hg : (ns.map fun n => n != 0).getD i false = (n != 0) := by rw [List.getD_eq_getElem?_getD, List.getElem?_map, hn] <;> rfl
  simp only [hg] at hq
  exact PySem.P.truthy_int hq
def rAnyI (K : PySem.W.Frag) : List V → Hp → VK → Prop := fun vs H Q => ∃ (a : Addr) (ns : List Int), vs = [V.ref a] ∧ SqL K H a (ns.map V.int) ∧ Q (.bl (ns.any fun n => n != 0)) H
theorem cr_anyI (hc : X.calm = true) : CallR X (.builtin "any") (rAnyI X.K) := by
  intro pins s σ H vs us Q I r h
  obtain ⟨a, ns, rfl, hs, q⟩ := h
  obtain ⟨its, rv, hl, _⟩ := I.list hs
  rw [Vals.ref1 r]
  have hb := rv.ints
  refine call_any_walk (iter_any hl.isList fun s₂ e2 st hne => ?_)
  subst e2
  refine ⟨_, _, _, _, _, _, _, rfl, Walks.list (A := X.A.in1) (I.ok.hd hc) _ a hne its.toArray, st, truth_ints hb, fun h' tk hk => ?_⟩
  refine ⟨.bl _, H, I.kept fun b o eo => hk b o (fun hmem => ?_) (Heap.get?_push_of_some _ eo), ?_, q⟩
  · rcases List.mem_cons.mp hmem with e1 | hmem
    · exact absurd (e1 ▸ Heap.lt_size eo) (Nat.lt_irrefl _)
    · cases hmem
  · show Value.bool _ = Value.bool _
    have e2 : its.toArray.size = (ns.map fun n => n != 0).length := by rw [List.size_toArray, List.length_map, ← rv.length, List.length_map]
    rw [e2, L2.any_range, List.any_map]
    rfl
def dAnyS : D → Option D
  | .lst ds => match D.bls ds with
    | some bs => some (.bl (bs.any id))
    | none => (D.ints ds).map fun ns => .bl (ns.any fun n => n != 0)
  | _ => none
theorem cv_anyS : CallV (fun vs H Q => rAny X.K vs H Q ∨ rAnyI X.K vs H Q) dAnyS := by
  intro x d hd G H v Q z m k
  cases x <;> simp only [dAnyS] at hd <;> first | (cases hd; done) | skip
  rename_i ds
  split at hd
  · rename_i bs h1
    cases hd
    rw [D.bls_map h1] at z
    obtain ⟨a, rfl, r⟩ := z.bls m
    exact .inl ⟨a, bs, rfl, .of r, k _ rfl⟩
  · simp only [Option.map_eq_some_iff] at hd
    obtain ⟨ns, h1, rfl⟩ := hd
    rw [D.ints_map h1] at z
    obtain ⟨a, rfl, r⟩ := z.ints m
    exact .inr ⟨a, ns, rfl, .of r, k _ rfl⟩
end
end VL

set_option Elab.async false
set_option linter.all false
set_option autoImplicit false
set_option maxRecDepth 100000
namespace VL
open PySem PySem.Spec L2
open PyProof.Rows hiding St

/-! ### enumerate(tuple) -/
theorem meets_enumT (l : Addr) (items : Array Value) (n : Nat) (dct : Option Addr) (sl : Array (Option Value)) :
    Meets (Builtin.«enumerate.__new__» ⟨[.type "enumerate", .ref l], []⟩) (fun _ R s => s.heap.get? l = some { cls := .type "tuple", dict := dct, data := .seq items n, slots := sl } ∧
      R (.ok (.ret (.ref (s.heap.push { cls := .type "tuple_iterator", data := .fields #[.ref l, .int 0 0] }).objs.size)))
        { s with heap := (s.heap.push { cls := .type "tuple_iterator", data := .fields #[.ref l, .int 0 0] }).push { cls := .type "enumerate", data := .fields #[.none, .bool false, .ref s.heap.objs.size, rawInt 0, .none, .none] } }) :=
  .of_wp fun prog w A R s h => by
    obtain ⟨hp, g, d, tk, os⟩ := s; obtain ⟨hl, h⟩ := h
    have hsub := sub_enumerate
    have hL : Heap.IsTuple (Shared.heap ⟨hp, g, d, tk, os⟩) l items := ⟨_, hl, rfl, n, rfl⟩
    wp_walk using AutoSeq1.wpAny_loadPart' hl
    refine wpAny_stack_any fun st => wpAny_pure ?_
    split
    · rename_i c _ _ _ _ _
      cases (c == Value.type "enumerate")
      · wp_walk using AutoSeq1.wpAny_loadPart' hl, wpAny_pyIter_tuple hL
        exact ⟨_, rfl, h⟩
      · wp_walk using AutoSeq1.wpAny_loadPart' hl, wpAny_pyIter_tuple hL
        exact ⟨_, rfl, h⟩
    · wp_walk using AutoSeq1.wpAny_loadPart' hl, wpAny_pyIter_tuple hL
      exact ⟨_, rfl, h⟩
theorem call_enumT {prog : Program} {w : World} {A : Around} {E : Value → Shared → Prop} {s : Shared} {l : Addr} {items : Array Value} {Q : Value → Shared → Prop} (hL : s.heap.IsTuple l items)
    (h : ∀ h', IsEnum h' (s.heap.objs.size + 1) s.heap.objs.size 0 .none → h'.IsTupleIter s.heap.objs.size l 0 → h'.objs.size = s.heap.objs.size + 2 →
      (∀ b o, s.heap.get? b = some o → h'.get? b = some o) → Q (.ref (s.heap.objs.size + 1)) { s with heap := h' }) :
    wpAny (model prog w) A (call (.type "enumerate") [.ref l]) Q E s := by
  obtain ⟨⟨c, dct, dt, sl⟩, hl, hc, n, hd⟩ := hL
  replace hc : c = .type "tuple" := hc
  replace hd : dt = .seq items n := hd
  subst hc hd
  refine callType_new F.called_enumerate (by decide) (F.typeCall_enumerate_1 _) (F.newCall_enumerate_1 _) (fun obj => F.args_object_init_2 obj _) F.entry_enumerate_new
    (meets_enumT l items n dct sl) ⟨hl, ?_⟩
  have hz : (s.heap.push { cls := .type "tuple_iterator", data := .fields #[.ref l, .int 0 0] }).objs.size = s.heap.objs.size + 1 := Heap.size_push ..
  show _ ∧ _
  rw [hz]
  have he : IsEnum ((s.heap.push { cls := .type "tuple_iterator", data := .fields #[.ref l, .int 0 0] }).push
      { cls := .type "enumerate", data := .fields #[.none, .bool false, .ref s.heap.objs.size, rawInt 0, .none, .none] }) (s.heap.objs.size + 1) s.heap.objs.size 0 .none := by
    have := Heap.get?_push_size (s.heap.push { cls := .type "tuple_iterator", data := .fields #[.ref l, .int 0 0] })
      (o := { cls := .type "enumerate", data := .fields #[.none, .bool false, .ref s.heap.objs.size, rawInt 0, .none, .none] }) rfl
    rw [hz] at this; exact this
  refine ⟨⟨_, he, rfl⟩, h _ he ⟨_, Heap.get?_push_of_some _ (Heap.get?_push_size _ rfl), rfl, rfl⟩ (by rw [Heap.size_push, hz]) fun b o x => Heap.get?_push_of_some _ (Heap.get?_push_of_some _ x)⟩
def IteT (K : PySem.W.Frag) (a : Addr) : It :=
  ⟨fun i H => ∃ (xs : List V) (x : V), SqT K H a xs ∧ xs[i]? = some x, fun i H v H' => ∃ T x, v = .ref T ∧ H T = none ∧ H' = upd H T (.tup [.int (i : Nat), x]) ∧ ∀ xs, SqT K H a xs → xs[i]? = some x, fun i H => ∃ xs : List V, SqT K H a xs ∧ xs.length ≤ i⟩
theorem tup_is {h : Heap} {a : Addr} {its : Array Value} (p : IsTup h a its) : h.IsTuple a its := by
  obtain ⟨o, e1, e2, n, e3⟩ := p
  exact ⟨o, e1, e2, n, e3⟩
theorem turn_enumT {P : Program} {w : World} {K : PySem.W.Frag} {elts : List Expr} {kk : Nat} {tpos : Pos} (a e it : Addr) :
    Turn P w K (.Tuple elts kk tpos) (IteT K a) [e, it] e (fun i h => (∃ old, IsEnum h e it ((i : Nat) : Int) old) ∧ h.IsTupleIter it a i ∧ e ≠ it) where
  mem := by simp
  obj := fun i h st b hb => by
    obtain ⟨⟨old, he⟩, ⟨o, ho, hc, hd⟩, _⟩ := st
    have e' : b = e ∨ b = it := by simpa using hb
    rcases e' with z | z
    · rw [z]; exact ⟨_, he, fun v q => nomatch q⟩
    · rw [z]; exact ⟨o, ho, fun v q => by rw [hd] at q; cases q⟩
  keep := fun i h h' st k => let ⟨⟨old, he⟩, hi, hne⟩ := st; ⟨⟨old, k e (by simp) _ he⟩, hi.at fun o q => k it (by simp) o q, hne⟩
  item := by
    intro X hP hw hK hc i pins s σ H E I hf st hg
    subst hP hw hK
    obtain ⟨⟨old, he⟩, hit, hne⟩ := st
    obtain ⟨xs, x, hq, hx⟩ := hg
    obtain ⟨its, rv, p, hz⟩ := I.tuple hq
    obtain ⟨u, hu, ru⟩ := rv.get hx
    have hT := tup_is p
    have hel : e < s.heap.objs.size := Heap.lt_size he
    have hil : it < s.heap.objs.size := by obtain ⟨_, q, _⟩ := hit; exact Heap.lt_size q
    have hea : e ≠ a := fun z => by
      obtain ⟨o, e1, e2, n, e3⟩ := hT
      rw [← z] at e1
      have h3 := Option.some.inj (he.symm.trans e1)
      rw [← h3] at e2
      exact absurd (Value.type.inj e2) (by decide)
    have hai : a ≠ it := fun z => by
      obtain ⟨o, e1, e2, n, e3⟩ := hT
      obtain ⟨o', e1', e2', e3'⟩ := hit
      rw [z, e1'] at e1
      cases e1
      rw [e2] at e2'
      exact absurd (Value.type.inj e2') (by decide)
    have hlt : i < its.toArray.size := by
      have := (List.getElem?_eq_some_iff.mp hu).1
      simpa using this
    refine wpAny_pyNext_enum_itemD (Draws.tuple (A := X.A.in1) (I.ok.hd hc) it a hai its.toArray) he ⟨hit, hT⟩ hlt hne (by simp [hne, hea]) fun y h' tk hy ho hst hTo hsz hk => ?_
    have hyu : y = u := by
      have : its.toArray[i]? = some y := hy
      rw [List.getElem?_toArray, hu] at this
      cases this; rfl
    subst hyu
    refine ⟨_, rfl, wpAny_letOwnedTupleGo_enum (s := { s with heap := h', toks := tk + 1 }) ho fun h'' he' sb => ?_⟩
    have hT2 : h''.get? s.heap.objs.size = some { cls := .type "tuple", data := .seq #[.int i tk, y] } := (sb.2 _ (Nat.ne_of_gt hel)).trans hTo
    have new : ObjOk X.prog X.w (upd H s.heap.objs.size (.tup [.int (i : Nat), x])) h'' s.heap.objs.size (.tup [.int (i : Nat), x]) :=
      ⟨by show 2 ≤ sizeLine; decide, [.int i tk, y], .cons ⟨_, rfl⟩ (.cons ru .nil), ⟨_, hT2, rfl, _, rfl⟩⟩
    have I1 : Inv X pins σ (upd H s.heap.objs.size (.tup [.int (i : Nat), x])) { s with heap := h'', toks := tk + 1 } :=
      I.turnedNew (ch := [e, it]) (fun b ob hb q => (sb.2 b (fun z => hb (by simp [z]))).trans (hk b ob (fun z => hb (by simp [z])) (fun z => hb (by simp [z])) q)) hf (Nat.le_refl _) new
    refine ⟨.ref s.heap.objs.size, _, I1, rfl, ⟨_, x, rfl, I.hok.fresh (Nat.le_refl _), rfl, fun ys hy => by rw [I.tuple_inj hy hq]; exact hx⟩, ⟨⟨y, ?_⟩, hst.1.at fun o q => (sb.2 it (Ne.symm hne)).trans q, hne⟩, fun b hb => ?_⟩
    · have e1 : ((i + 1 : Nat) : Int) = (i : Int) + 1 := by omega
      rw [e1]; exact he'
    · have hb' : b < s.heap.objs.size := by
        have e' : b = e ∨ b = it := by simpa using hb
        rcases e' with z | z
        · rw [z]; exact hel
        · rw [z]; exact hil
      rw [upd_ne (Nat.ne_of_lt hb')]
      exact (hf b hb).1
  done := by
    intro X hP hw hK hc i pins s σ H E I hf st hg
    subst hP hw hK
    obtain ⟨⟨old, he⟩, hit, hne⟩ := st
    obtain ⟨xs, hq, hx⟩ := hg
    obtain ⟨its, rv, p, hz⟩ := I.tuple hq
    obtain ⟨f0, f1, f2, f3, f4, f5⟩ := hf it (by simp)
    have hl := rv.length
    have hT := tup_is p
    have hTy : s.TypeIs (.ref e) "enumerate" := ⟨_, he, rfl⟩
    unfold pyNext
    refine wpAny_bind (wpAny_attempt (wpAny_callSpecial?_slot (name := Str.ofString "__next__") hTy F.slot_enumerate_next
      (wpAny_call_entry F.slot_enumerate_next hTy F.entry_enumerate_next ?_ (F.args_enumerate_next_1 _))))
    show wpAny _ _ (field (.ref e) 2 >>= _) _ _ _
    refine wpAny_bind (wpAny_field he rfl (x := .ref it) rfl ?_)
    refine wpAny_bind (PySem.wpAny_nextOf_tuple_end (I.ok.hd hc) hit hT (by simp; omega) fun h' x he' hx' => ?_)
    obtain ⟨o, ho, hcl⟩ := hx'
    refine wpAny_bind (wpAny_isInstance (T := "StopIteration") (b := true) ⟨o, ho, hcl⟩ isSubtype_stop ?_)
    exact wpAny_pure ⟨rfl, I.turned (t' := s.toks) (fun b o hb q => he' b o hb q) f0 f1 f3 f4 f5⟩
  self := fun A i s Q E st h => let ⟨⟨_, he⟩, _⟩ := st; wpAny_pyIter_enum he h
def iEnumT (K : PySem.W.Frag) (ta : TA) : TI := fun σ H R => ta σ H fun vs H1 => ∃ a xs, vs = [.ref a] ∧ SqT K H1 a xs ∧ R (IteT K a) H1
theorem pi_enumT {X : Cx} {e : Expr} {ta : TA} {p pos tpos : Pos} {elts : List Expr} {kk : Nat} (hg : Gl X "enumerate") (hm : X.mg "enumerate" = none) (ha : PA X [e] ta) (hs : starEach [e] X.env = [(false, eval e X.env)] := by rfl) :
    PI X (.Tuple elts kk tpos) (.Call (.Name "enumerate" p) [e] [] pos) (iEnumT X.K ta) := by
  refine ⟨fun pins s σ H R I h => ?_⟩
  refine Call_ (ld_blt I hg hm boot_enumerate (PyProof.Rows.callWith_type1 (thn (ha.run pos pins s σ H _ I h) fun us s1 ⟨vs, H1, I1, r1, q1⟩ => ?_) hs rfl))
  obtain ⟨a, xs, ex, hq, q⟩ := q1
  subst ex
  cases r1 with
  | cons r rr =>
    cases rr
    cases r
    obtain ⟨its, rv, p', hz⟩ := I1.tuple hq
    refine call_enumT (tup_is p') fun h' he hit hsz hk => wpAny_pyIter_enum he ?_
    have I2 : Inv X pins σ H1 { s1 with heap := h' } := I1.kept (t' := s1.toks) hk
    refine ⟨s1.heap.objs.size + 1, [s1.heap.objs.size + 1, s1.heap.objs.size], _, _, H1, rfl, I2, turn_enumT a (s1.heap.objs.size + 1) s1.heap.objs.size, ⟨⟨.none, he⟩, hit, Nat.succ_ne_self _⟩, fun b hb => ?_, q⟩
    have e' : b = s1.heap.objs.size + 1 ∨ b = s1.heap.objs.size := by simpa using hb
    have hle : s1.heap.objs.size ≤ b := by
      rcases e' with z | z
      · rw [z]; exact Nat.le_add_right _ _
      · rw [z]; exact Nat.le_refl _
    exact I1.fpOk hle (I1.hok.fresh hle)
section
variable {X : Cx} {W : WX} {p q p' : Bool} {e ea eb ec : Expr} {es : List Expr} {pos apos cpos : Pos}
variable {σ0 σ : St} {G H G1 H1 G2 H2 : Hp} {F F1 F2 : Fps} {S S1 S2 : Sl}
def seqV (b : Bool) (x : Vl) : Option (List D) := match x.d with
  | .tup ds => some ds
  | _ => listV b x
def gEnumS (b : Bool) (g : Sl → R Vl) : Sl → R (List D) := fun S => (g S).bind fun x S1 => match seqV b x with | some ds => .ok (enumD ds) S1 | none => .stuck
theorem vi_enumS (b : Bool) {elts : List Expr} {kk : Nat} {xp tpos : Pos} {g : Sl → R Vl} (h : VE p X W e g) (hm : X.mg "enumerate" = none) (hg : Gl X "enumerate" := by rfl) (hs : starEach [e] X.env = [(false, eval e X.env)] := by rfl) (hs' : starEach [e] X.env = (false, eval e X.env) :: starEach [] X.env := by rfl) : VI p b X W (.Tuple elts kk tpos) (.Call (.Name "enumerate" xp) [e] [] pos) (gEnumS b g) := by
  obtain ⟨t, t1, t2⟩ := h
  have go : ∀ {ds : List D} {J : Addr → It} {vs : List V} {a : Addr} {G' H' : Hp}, (J a = Ite X.K a ∧ (G' a = some (.lst vs) ∨ (b = true ∧ H' a = some (.lst vs))) ∨ J a = IteT X.K a ∧ G' a = some (.tup vs)) → FzL G' ds vs → ItOk b (J a) G' H' (enumD ds) := fun {ds J vs a G' H'} h0 z => by
    intro G2 H2 i1 i2 _ i3 i
    rcases h0 with ⟨eJ, h0⟩ | ⟨eJ, h0⟩
    · have ha : H2 a = some (.lst vs) := by
        rcases h0 with h0 | ⟨hb, h0⟩
        · exact i2 _ _ (i1 _ _ h0)
        · exact i3 hb _ _ h0
      rw [eJ]
      refine ⟨fun d hd => ?_, fun hi => ⟨vs, .of ha, by rw [z.length]; simpa [enumD] using hi⟩⟩
      obtain ⟨x, hx, rfl⟩ := enumD_get hd
      obtain ⟨u, e1, e2⟩ := z.get hx
      refine ⟨⟨vs, u, .of ha, e1⟩, fun y H3 ⟨T, u', e3, hT, e4, y'⟩ => .inr ⟨T, _, [.int (i : Nat), u], rfl, e3, hT, ?_, .cons rfl (.cons (e2.inc i1) .nil)⟩⟩
      have := y' vs (.of ha)
      rw [e1] at this
      cases this
      exact e4
    · have ha : H2 a = some (.tup vs) := i2 _ _ (i1 _ _ h0)
      have hq : SqT X.K H2 a vs := .inl (.inl ha)
      rw [eJ]
      refine ⟨fun d hd => ?_, fun hi => ⟨vs, hq, by rw [z.length]; simpa [enumD] using hi⟩⟩
      obtain ⟨x, hx, rfl⟩ := enumD_get hd
      obtain ⟨u, e1, e2⟩ := z.get hx
      refine ⟨⟨vs, u, hq, e1⟩, fun y H3 ⟨T, u', e3, hT, e4, y'⟩ => .inr ⟨T, _, [.int (i : Nat), u], rfl, e3, hT, ?_, .cons rfl (.cons (e2.inc i1) .nil)⟩⟩
      have := y' vs hq
      rw [e1] at this
      cases this
      exact e4
  refine ⟨_, pi_or (pi_enum hg hm (pa_cons t1 pa_nil hs') hs) (pi_enumT hg hm (pa_cons t1 pa_nil hs') hs), fun σ0 σ G H S F Q r hw => ?_⟩
  have hw' := hw
  -- the value is known before the choice of the rule
  cases hgS : g S with
  | stuck => unfold gEnumS at hw; rw [hgS] at hw; exact hw.elim
  | err c w S' =>
    refine .inl (t2 σ0 σ G H S F _ r ?_)
    unfold gEnumS at hw
    rw [hgS] at hw ⊢
    exact hw
  | ok x S1 =>
    unfold gEnumS at hw
    rw [hgS] at hw
    simp only [R.bind] at hw
    obtain ⟨xb, xk, xd⟩ := x
    by_cases hT : ∃ ds, xd = .tup ds
    · obtain ⟨ds, rfl⟩ := hT
      refine .inr (t2 σ0 σ G H S F _ r ?_)
      rw [hgS]
      intro v fp G1 H1 F1 r1 g1 z1
      simp only [seqV] at hw
      have zf := (z1.ow.atom rfl).1
      simp only [Fz] at zf
      obtain ⟨a, vs, rfl, rd, fz⟩ := zf
      exact ⟨a, vs, rfl, .inl (.inl (r1.inc _ _ rd)), hw _ G1 H1 F1 r1 g1 (go (J := IteT X.K) (.inr ⟨rfl, rd⟩) fz)⟩
    · refine .inl (t2 σ0 σ G H S F _ r ?_)
      rw [hgS]
      intro v fp G1 H1 F1 r1 g1 z1
      have e1 : seqV b ⟨xb, xk, xd⟩ = listV b ⟨xb, xk, xd⟩ := by
        unfold seqV
        split
        · rename_i ds e; exact absurd ⟨ds, e⟩ hT
        · rfl
      rw [e1] at hw
      cases hl : listV b ⟨xb, xk, xd⟩ with
      | none => rw [hl] at hw; exact hw.elim
      | some ds =>
        rw [hl] at hw
        unfold listV at hl
        split at hl
        case isFalse => cases hl
        rename_i hb
        cases xd <;> first | (simp only at hl; cases hl; done) | skip
        simp only at hl
        split at hl
        case isFalse => cases hl
        rename_i hlev
        cases hl
        cases xb with
        | true =>
          have hb' : b = true := by simpa using hb
          obtain ⟨a, vs, rfl, ha, fa⟩ := (z1.rv1 hlev).lst r1.inc
          exact ⟨a, vs, rfl, .of ha, hw _ G1 H1 F1 r1 g1 (go (J := Ite X.K) (.inl ⟨rfl, .inr ⟨hb', ha⟩⟩) fa)⟩
        | false =>
          obtain ⟨G2, r2, g2, z2⟩ := z1.freeze r1 g1 rfl
          simp only [Fz] at z2
          obtain ⟨a, vs, rfl, rd, fz⟩ := z2
          exact ⟨a, vs, rfl, .of (r2.inc _ _ rd), hw _ G2 H1 F1 r2 g2 (go (J := Ite X.K) (.inl ⟨rfl, .inl rd⟩) fz)⟩
end
end VL

set_option Elab.async false
set_option linter.all false
set_option autoImplicit false
set_option maxRecDepth 100000
namespace VL
open PySem PySem.Spec L2
open PyProof.Rows hiding St
section
theorem q_gNeg (g : Sl → R D) {S : Sl} (p : Po D) : @Wq D (gNeg g S) p = @Wq D (g S) ⟨fun x S1 => @Wq D (match x with
  | .int i => .ok (.int (-i)) S1
  | _ => .stuck) p, p.er⟩ := by
  unfold gNeg
  rw [q_bind] <;> refine po_congr fun x S1 => ?_ <;> rfl
theorem q_gTRange (g : Sl → R D) {S : Sl} (p : Po D) : @Wq D (gTRange g S) p = @Wq D (g S) ⟨fun d S1 => @Wq D (match dLRange [d] with | some xs => .ok (.tup xs) S1 | none => .stuck) p, p.er⟩ := by
  unfold gTRange
  rw [q_bind] <;> refine po_congr fun x S1 => ?_ <;> rfl
theorem q_gEnumS (b : Bool) (g : Sl → R Vl) {S : Sl} (p : Po (List D)) : @Wq (List D) (gEnumS b g S) p = @Wq Vl (g S) ⟨fun x S1 => @Wq (List D) (match seqV b x with | some ds => .ok (enumD ds) S1 | none => .stuck) p, p.er⟩ := by
  unfold gEnumS
  rw [q_bind] <;> refine po_congr fun x S1 => ?_ <;> rfl
theorem q_gDIx (ga : Sl → R Vl) (gk : Sl → R D) {S : Sl} (p : Po D) : @Wq D (gDIx ga gk S) p = @Wq Vl (ga S) ⟨fun x S1 => @Wq D (gk S1) ⟨fun y S2 => @Wq D (if x.lev then (match dLook x.d y with
  | some (some d) => .ok d S2
  | _ => .stuck) else .stuck) p, p.er⟩, p.er⟩ := by
  unfold gDIx
  rw [q_bind]; refine po_congr fun x S1 => ?_
  rw [q_bind]
theorem q_gDGet2 (ga : Sl → R Vl) (gk gx : Sl → R D) {S : Sl} (p : Po D) : @Wq D (gDGet2 ga gk gx S) p = @Wq Vl (ga S) ⟨fun x S1 => if (x.lev && isDict x.d) = true then @Wq D (gk S1) ⟨fun y S2 => @Wq D (gx S2) ⟨fun z S3 => @Wq D (match dLook x.d y with
  | some o => .ok (o.getD z) S3
  | none => .stuck) p, p.er⟩, p.er⟩ else False, p.er⟩ := by
  unfold gDGet2
  rw [q_bind]; refine po_congr fun x S1 => ?_
  rw [q_if]
  by_cases h : (x.lev && isDict x.d) = true
  · rw [if_pos h, if_pos h, q_bind]; refine po_congr fun y S2 => ?_
    rw [q_bind]
  · rw [if_neg h, if_neg h]; rfl
theorem q_gBest (h : D → D → Option D) (ga : Sl → R Vl) (gb : Sl → R D) {S : Sl} (p : Po D) : @Wq D (gBest h ga gb S) p = @Wq Vl (ga S) ⟨fun x S1 => @Wq D (gb S1) ⟨fun y S2 => @Wq D (if x.lev then (match h x.d y with | some d => .ok d S2 | none => .stuck) else .stuck) p, p.er⟩, p.er⟩ := by
  unfold gBest
  rw [q_bind]; refine po_congr fun x S1 => ?_
  rw [q_bind]
theorem q_gLend (i : Nat) (g : Sl → R D) {S : Sl} (p : Po D) : @Wq D (gLend i g S) p = match S[i]? with
  | some ⟨_, some (_, d)⟩ => @Wq D (g (S.put i (some (0, d)))) ⟨fun x _ => if bare x = true then p.ok x S else False, fun _ _ _ => False⟩
  | _ => False := by
  unfold gLend
  rcases S[i]? with _ | ⟨pin, _ | ⟨k, d⟩⟩
  · rfl
  · rfl
  · simp only
    cases hg : g (S.put i (some (0, d))) with
    | stuck => rfl
    | err => rfl
    | ok x S' =>
      simp only
      rw [q_if]; rfl
theorem q_gFzS (i : Nat) (g : Sl → R Out) {S : Sl} (p : Po Out) : @Wq Out (gFzS i g S) p = match S[i]? with
  | some ⟨_, some (_, d)⟩ => @Wq Out (g (S.put i (some (0, d)))) p
  | _ => False := by
  unfold gFzS
  rcases S[i]? with _ | ⟨pin, _ | ⟨k, d⟩⟩ <;> rfl
theorem q_gAug (i : Nat) (h : D → D → Option D) (gx : Sl → R D) {S : Sl} (p : Po Out) : @Wq Out (gAug i h gx S) p = match S[i]? with
  | some ⟨_, some (_, x0)⟩ => if x0.atom = true then @Wq D (gx S) ⟨fun y S2 => @Wq Out (match h x0 y, S2[i]? with
    | some z, some ⟨false, _⟩ => .ok .nx (S2.put i (some (0, z)))
    | _, _ => .stuck) p, p.er⟩ else False
  | _ => False := by
  unfold gAug
  rcases S[i]? with _ | ⟨pin, _ | ⟨k, x0⟩⟩
  · rfl
  · rfl
  · simp only
    rw [q_if]
    by_cases h : x0.atom = true
    · rw [if_pos h, if_pos h, q_bind]
    · rw [if_neg h, if_neg h]; rfl
theorem seqV_t (b : Bool) (c : Bool) (k : Nat) (ds : List D) : seqV b ⟨c, k, .tup ds⟩ = some ds := rfl
theorem seqV_l0 (b c : Bool) (ds : List D) : seqV b ⟨c, 0, .lst ds⟩ = if b || !c then some ds else none := by cases b <;> cases c <;> rfl
theorem seqV_l1 (b c : Bool) (ds : List D) : seqV b ⟨c, 1, .lst ds⟩ = if b || !c then some ds else none := by cases b <;> cases c <;> rfl
theorem u_gWalk (f : D → Option (List D)) (i : Nat) (S : Sl) : gWalk f (fpVar i) S = match S[i]? with
  | some ⟨_, some (0, d)⟩ => (match f d with
    | some xs => .ok xs S
    | none => .stuck)
  | _ => .stuck := by
  unfold gWalk fpD fpVar
  rcases hS : S[i]? with _ | ⟨pin, _ | ⟨k, d⟩⟩
  · rfl
  · rfl
  · cases k with
    | zero =>
      simp only [hS, List.map_nil, D.at] <;> (cases f d <;> rfl)
    | succ k => rfl
/-- extend of a list that stands at a name -/
theorem q_gExtV (q : Bool) (i : Nat) (g : Sl → R Vl) {S : Sl} (p : Po D) : @Wq D (gExtPl q (plVar i) g S) p = match S[i]? with
  | some ⟨_, some (_ + 1, .lst _)⟩ => @Wq Vl (g S) ⟨fun y S1 => @Wq D (match S1[i]?, y.d with
    | some ⟨_, some (k + 1, .lst xs)⟩, .lst ys => if decide (xs.length + ys.length ≤ 16777216) && (!y.b && y.k == k + 1 || (k == 0 && !y.b)) then .ok .non (S1.put i (some (k + 1, .lst (xs ++ ys)))) else .stuck
    | _, _ => .stuck) p, p.er⟩
  | _ => False := by
  unfold gExtPl plVar
  rcases hS : S[i]? with _ | ⟨pin, _ | ⟨k, d⟩⟩
  · rfl
  · rfl
  · simp only
    cases k with
    | zero => simp [subL, hS, q_stuck]
    | succ k =>
      cases d with
      | lst xs =>
        have e : subL S i [] = some (k + 1, .lst xs, k, xs) := by simp [subL, hS, D.at]
        simp only [e]
        rw [q_bind]
        refine po_congr fun y S1 => ?_
        rcases hS1 : S1[i]? with _ | ⟨pin1, _ | ⟨k1, d1⟩⟩
        · simp [subL, hS1]
        · simp [subL, hS1]
        · cases k1 with
          | zero => simp [subL, hS1]
          | succ k1 =>
            cases d1 with
            | lst zs =>
              have e1 : subL S1 i [] = some (k1 + 1, .lst zs, k1, zs) := by simp [subL, hS1, D.at]
              simp only [e1, List.isEmpty_nil, Bool.or_true, Bool.true_and, D.put]
              cases y.d <;> rfl
            | _ => simp [subL, hS1, D.at]
      | _ => simp [subL, hS, D.at, q_stuck]
/-- comprehensions with owned lists of one depth -/
theorem q_lcO {α : Type} (c : α → D) (e : α → D) (L : List α) {vs : List Nat} {gi : Sl → R (List D)} {ga : D → Sl → Option Sl} {ge : Sl → R Vl} {S : Sl} {p : Po Vl}
    (hi : @Wq (List D) (gi S) ⟨fun xs S' => xs = L.map c ∧ S' = S, noE⟩) (hw : wipeOk vs S = true) (hl : L.length ≤ 16777216)
    (h : ∀ a ∈ L, match ga (c a) (S.wipe vs) with
      | none => False
      | some S1 => @Wq Vl (ge S1) ⟨fun d _ => d = ⟨false, 1, e a⟩, noE⟩)
    (hq : p.ok ⟨false, 2, .lst (L.map e)⟩ S) : @Wq Vl (gLcO 1 vs gi ga gYes ge S) p := by
  have hi' := q_eq hi
  have main : ∀ L' : List α, (∀ a ∈ L', a ∈ L) → loopLcO 1 ga gYes ge (L'.map c) (S.wipe vs) = .ok (L'.map e) (S.wipe vs) := by
    intro L'
    induction L' with
    | nil => intro _; rfl
    | cons a L' ih =>
      intro hm
      have h1 := h a (hm a (by simp))
      simp only [List.map_cons, loopLcO]
      cases hg : ga (c a) (S.wipe vs) with
      | none => rw [hg] at h1; exact h1.elim
      | some S1 =>
        rw [hg] at h1
        simp only [gYes, R.bind, if_true] at h1 ⊢
        cases hge : ge S1 with
        | stuck => rw [hge] at h1; exact h1.elim
        | err => rw [hge] at h1; exact h1.elim
        | ok d S3 =>
          rw [hge] at h1
          have h4 : d = ⟨false, 1, e a⟩ := h1
          subst h4
          simp only [R.bind]
          rw [ih fun b hb => hm b (by simp [hb])]
          rfl
  refine q_to (a := ⟨false, 2, .lst (L.map e)⟩) (S := S) ?_ hq
  unfold gLcO
  rw [hi']
  simp only [R.bind, hw, lineOk, List.length_map, hl, decide_true, Bool.and_self, if_true]
  rw [main L fun _ h => h]
  simp only [R.noerr, R.bind, restFrom_wipe]
/-- while, by an invariant that counts down -/
theorem q_while (I : Nat → Sl → Prop) {gc : Sl → R Bool} {gb : Sl → R Out} {p : Po Out}
    (hs : ∀ m S, I m S → @Wq Bool (gc S) ⟨fun b S1 => if b = true then (∃ m', m = m' + 1 ∧ @Wq Out (gb S1) ⟨fun o S2 => match o with
      | .nx => ∃ m'', m'' ≤ m' ∧ I m'' S2
      | .ct => ∃ m'', m'' ≤ m' ∧ I m'' S2
      | .bk => p.ok .nx S2
      | .rt x => p.ok (.rt x) S2, p.er⟩) else p.ok .nx S1, p.er⟩) : ∀ (k m : Nat) {S : Sl}, m < k → I m S → @Wq Out (gWhile k gc gb S) p := by
  intro k
  induction k with
  | zero => intro m S h; omega
  | succ k ih =>
    intro m S hm hI
    show @Wq Out (loopWhile gc gb (k + 1) S) p
    simp only [loopWhile]
    rw [q_bind]
    refine q_mono (hs m S hI) (fun b S1 hb => ?_) fun _ _ _ h => h
    cases b with
    | false => simp only [Bool.false_eq_true, if_false] at hb ⊢; exact hb
    | true =>
      simp only [if_true] at hb ⊢
      obtain ⟨m', rfl, hb⟩ := hb
      rw [q_bind]
      refine q_mono hb (fun o S2 ho => ?_) fun _ _ _ h => h
      cases o with
      | nx => obtain ⟨m'', h1, h2⟩ := ho; exact ih m'' (by omega) h2
      | ct => obtain ⟨m'', h1, h2⟩ := ho; exact ih m'' (by omega) h2
      | bk => exact ho
      | rt x => exact ho
/-- comprehensions with two for, without tests -/
theorem q_lc2 {α β : Type} (c : α → D) (L : List α) (c1 : α → β → D) (L1 : α → List β) (e : α → β → D) {vs vs1 : List Nat} {gi gi1 : Sl → R (List D)} {ga ga1 : D → Sl → Option Sl} {ge : Sl → R D} {S : Sl} {p : Po Vl}
    (hi : @Wq (List D) (gi S) ⟨fun xs S' => xs = L.map c ∧ S' = S, noE⟩) (hw : wipeOk vs S = true) (hl : (L.flatMap fun a => (L1 a).map (e a)).length ≤ 16777216)
    (h : ∀ a ∈ L, match ga (c a) (S.wipe vs) with
      | none => False
      | some S1 => @Wq (List D) (gi1 S1) ⟨fun ys S3 => ys = (L1 a).map (c1 a) ∧ wipeOk vs1 S3 = true ∧ ∀ b ∈ L1 a, match ga1 (c1 a b) (S3.wipe vs1) with
        | none => False
        | some S4 => @Wq D (ge S4) ⟨fun d _ => d = e a b, noE⟩, noE⟩)
    (hq : p.ok ⟨false, 1, .lst (L.flatMap fun a => (L1 a).map (e a))⟩ S) : @Wq Vl (gLc2 vs vs1 gi ga gYes gi1 ga1 gYes ge S) p := by
  have hi' := q_eq hi
  have inner : ∀ (a : α) (L' : List β), (∀ b ∈ L', b ∈ L1 a) → ∀ S3 : Sl, (∀ b ∈ L1 a, match ga1 (c1 a b) (S3.wipe vs1) with
        | none => False
        | some S4 => @Wq D (ge S4) ⟨fun d _ => d = e a b, noE⟩) → loopLc true vs1 ga1 gYes ge (L'.map (c1 a)) (S3.wipe vs1) = .ok (L'.map (e a)) (S3.wipe vs1) := by
    intro a L'
    induction L' with
    | nil => intro _ S3 _; rfl
    | cons b L' ih =>
      intro hm S3 hb
      have h1 := hb b (hm b (by simp))
      simp only [List.map_cons, loopLc]
      cases hg : ga1 (c1 a b) (S3.wipe vs1) with
      | none => rw [hg] at h1; exact h1.elim
      | some S4 =>
        rw [hg] at h1
        simp only [u_gYes, R.bind, if_true] at h1 ⊢
        cases hge : ge S4 with
        | stuck => rw [hge] at h1; exact h1.elim
        | err => rw [hge] at h1; exact h1.elim
        | ok d S5 =>
          rw [hge] at h1
          have h4 : d = e a b := h1
          subst h4
          simp only [R.bind, Bool.true_or, if_true]
          rw [ih (fun b hb => hm b (by simp [hb])) S3 hb]
  have main : ∀ L' : List α, (∀ a ∈ L', a ∈ L) → loopLc2 vs1 ga gYes gi1 ga1 gYes ge (L'.map c) (S.wipe vs) = .ok (L'.flatMap fun a => (L1 a).map (e a)) (S.wipe vs) := by
    intro L'
    induction L' with
    | nil => intro _; rfl
    | cons a L' ih =>
      intro hm
      have h1 := h a (hm a (by simp))
      simp only [List.map_cons, loopLc2]
      cases hg : ga (c a) (S.wipe vs) with
      | none => rw [hg] at h1; exact h1.elim
      | some S1 =>
        rw [hg] at h1
        simp only [u_gYes, R.bind, if_true] at h1 ⊢
        cases hgi : gi1 S1 with
        | stuck => rw [hgi] at h1; exact h1.elim
        | err => rw [hgi] at h1; exact h1.elim
        | ok ys S3 =>
          rw [hgi] at h1
          obtain ⟨e1, e2, e3⟩ := h1
          subst e1
          simp only [R.bind, e2, if_true]
          have h5 := inner a (L1 a) (fun _ h => h) S3 e3
          rw [h5]
          simp only [R.bind]
          rw [ih fun b hb => hm b (by simp [hb])]
          rw [List.flatMap_cons]
  refine q_to (a := ⟨false, 1, .lst (L.flatMap fun a => (L1 a).map (e a))⟩) (S := S) ?_ hq
  unfold gLc2
  rw [hi']
  simp only [R.bind, hw, if_true]
  rw [main L fun _ h => h]
  simp only [R.noerr, R.bind, lineOk, hl, decide_true, if_true]
end
end VL

set_option Elab.async false
set_option linter.all false
set_option autoImplicit false
set_option maxRecDepth 100000
namespace VL
open PySem PySem.Spec L2
open PyProof.Rows hiding St
/-! the same with a shut Wp (a refine must not run the program) -/
@[irreducible] def Wp {α : Type} (r : R α) [p : Po α] : Prop := Wq r
theorem Wq_Wp : @Wq = @Wp := by
  funext α r p
  unfold Wp
  rfl
section
variable {α β : Type}
theorem w_bind (r : R α) (f : α → Sl → R β) (p : Po β) : @Wp β (r.bind f) p = @Wp α r ⟨fun a s => @Wp β (f a s) p, p.er⟩ := by
  have h_q := @q_bind
  rw [Wq_Wp] at h_q
  first | exact h_q .. | apply h_q <;> assumption
theorem w_ok (a : α) (S : Sl) (p : Po α) : @Wp α (.ok a S) p = p.ok a S := by
  have h_q := @q_ok
  rw [Wq_Wp] at h_q
  first | exact h_q .. | apply h_q <;> assumption
theorem w_err (c : Addr) (w : Option (Str × D)) (S : Sl) (p : Po α) : @Wp α (.err c w S) p = p.er c w S := by
  have h_q := @q_err
  rw [Wq_Wp] at h_q
  first | exact h_q .. | apply h_q <;> assumption
theorem w_stuck (p : Po α) : @Wp α .stuck p = False := by
  have h_q := @q_stuck
  rw [Wq_Wp] at h_q
  first | exact h_q .. | apply h_q <;> assumption
theorem w_if (c : Prop) [Decidable c] (a b : R α) (p : Po α) : @Wp α (if c then a else b) p = if c then @Wp α a p else @Wp α b p := by
  have h_q := @q_if
  rw [Wq_Wp] at h_q
  first | exact h_q .. | apply h_q <;> assumption
theorem w_opt (o : Option β) (f : β → R α) (p : Po α) : @Wp α (match o with | some d => f d | none => .stuck) p = match o with | some d => @Wp α (f d) p | none => False := by
  have h_q := @q_opt
  rw [Wq_Wp] at h_q
  first | exact h_q .. | apply h_q <;> assumption
theorem w_iff {r : R α} {a : α} {S : Sl} : @Wp α r ⟨fun x S' => x = a ∧ S' = S, noE⟩ ↔ r = .ok a S := by
  have h_q := @q_iff
  rw [Wq_Wp] at h_q
  first | exact h_q .. | apply h_q <;> assumption
theorem w_eq {r : R α} {a : α} {S : Sl} (h : @Wp α r ⟨fun x S' => x = a ∧ S' = S, noE⟩) : r = .ok a S := by
  have h_q := @q_eq
  rw [Wq_Wp] at h_q
  first | exact h_q .. | apply h_q <;> assumption
theorem w_er {r : R α} {c : Addr} {w : Option (Str × D)} {S : Sl} (h : @Wp α r ⟨fun _ _ => False, fun c' w' S' => c' = c ∧ w' = w ∧ S' = S⟩) : r = .err c w S := by
  have h_q := @q_er
  rw [Wq_Wp] at h_q
  first | exact h_q .. | apply h_q <;> assumption
theorem w_to {r : R α} {a : α} {S : Sl} {p : Po α} (h : r = .ok a S) (k : p.ok a S) : @Wp α r p := by
  have h_q := @q_to
  rw [Wq_Wp] at h_q
  first | exact h_q .. | apply h_q <;> assumption
theorem w_mono {r : R α} {p q : Po α} (h : @Wp α r p) (h1 : ∀ a s, p.ok a s → q.ok a s) (h2 : ∀ c w s, p.er c w s → q.er c w s) : @Wp α r q := by
  have h_q := @q_mono
  rw [Wq_Wp] at h_q
  first | exact h_q .. | apply h_q <;> assumption
end
theorem po_congr_p {α : Type} {r : R α} {ok ok' : α → Sl → Prop} {er : Addr → Option (Str × D) → Sl → Prop} (h : ∀ a s, ok a s = ok' a s) : @Wp α r ⟨ok, er⟩ = @Wp α r ⟨ok', er⟩ := by
  have h_q := @po_congr
  rw [Wq_Wp] at h_q
  first | exact h_q .. | apply h_q <;> assumption
section
theorem w_gD (g : Sl → R Vl) {S : Sl} (p : Po D) : @Wp D (gD g S) p = @Wp Vl (g S) ⟨fun x S1 => @Wp D (if x.b then .stuck else .ok x.d S1) p, p.er⟩ := by
  have h_q := @q_gD
  rw [Wq_Wp] at h_q
  first | exact h_q .. | apply h_q <;> assumption
theorem w_gV (g : Sl → R D) {S : Sl} (p : Po Vl) : @Wp Vl (gV g S) p = @Wp D (g S) ⟨fun d S1 => p.ok ⟨false, 0, d⟩ S1, p.er⟩ := by
  have h_q := @q_gV
  rw [Wq_Wp] at h_q
  first | exact h_q .. | apply h_q <;> assumption
theorem w_gOp (h : D → D → Option D) (ga gb : Sl → R D) {S : Sl} (p : Po D) : @Wp D (gOp h ga gb S) p = @Wp D (ga S) ⟨fun x S1 => @Wp D (gb S1) ⟨fun y S2 => @Wp D (match h x y with | some d => .ok d S2 | none => .stuck) p, p.er⟩, p.er⟩ := by
  have h_q := @q_gOp
  rw [Wq_Wp] at h_q
  first | exact h_q .. | apply h_q <;> assumption
theorem w_gBool (g : Sl → R D) {S : Sl} (p : Po Bool) : @Wp Bool (gBool g S) p = @Wp D (g S) ⟨fun d S1 => @Wp Bool (match d with | .bl b => .ok b S1 | _ => .stuck) p, p.er⟩ := by
  have h_q := @q_gBool
  rw [Wq_Wp] at h_q
  first | exact h_q .. | apply h_q <;> assumption
theorem w_gCons (g : Sl → R D) (r : Sl → R (List D)) {S : Sl} (p : Po (List D)) : @Wp (List D) (gCons g r S) p = @Wp D (g S) ⟨fun d S1 => @Wp (List D) (r S1) ⟨fun ds S2 => p.ok (d :: ds) S2, p.er⟩, p.er⟩ := by
  have h_q := @q_gCons
  rw [Wq_Wp] at h_q
  first | exact h_q .. | apply h_q <;> assumption
theorem w_gLst (g : Sl → R (List D)) {S : Sl} (p : Po Vl) : @Wp Vl (gLst g S) p = @Wp (List D) (g S) ⟨fun ds S1 => @Wp Vl (if lineOk ds then .ok ⟨false, 1, .lst ds⟩ S1 else .stuck) p, p.er⟩ := by
  have h_q := @q_gLst
  rw [Wq_Wp] at h_q
  first | exact h_q .. | apply h_q <;> assumption
theorem w_gTup (g : Sl → R (List D)) {S : Sl} (p : Po D) : @Wp D (gTup g S) p = @Wp (List D) (g S) ⟨fun ds S1 => @Wp D (if lineOk ds then .ok (.tup ds) S1 else .stuck) p, p.er⟩ := by
  have h_q := @q_gTup
  rw [Wq_Wp] at h_q
  first | exact h_q .. | apply h_q <;> assumption
theorem w_gApp (h : List D → Option D) (ga : Sl → R (List D)) {S : Sl} (p : Po D) : @Wp D (gApp h ga S) p = @Wp (List D) (ga S) ⟨fun ds S1 => @Wp D (match h ds with | some d => .ok d S1 | none => .stuck) p, p.er⟩ := by
  have h_q := @q_gApp
  rw [Wq_Wp] at h_q
  first | exact h_q .. | apply h_q <;> assumption
theorem w_gApp1 (h : D → Option D) (g : Sl → R Vl) {S : Sl} (p : Po D) : @Wp D (gApp1 h g S) p = @Wp Vl (g S) ⟨fun x S1 => @Wp D (match h x.d with | some d => .ok d S1 | none => .stuck) p, p.er⟩ := by
  have h_q := @q_gApp1
  rw [Wq_Wp] at h_q
  first | exact h_q .. | apply h_q <;> assumption
theorem w_gNew1 (h : D → Option (List D)) (g : Sl → R Vl) {S : Sl} (p : Po Vl) : @Wp Vl (gNew1 h g S) p = @Wp Vl (g S) ⟨fun x S1 => @Wp Vl (if x.lev then (match h x.d with | some ds => .ok ⟨false, 1, .lst ds⟩ S1 | none => .stuck) else .stuck) p, p.er⟩ := by
  have h_q := @q_gNew1
  rw [Wq_Wp] at h_q
  first | exact h_q .. | apply h_q <;> assumption
theorem w_gOpV (q : Bool) (h : D → D → Option D) (ga gb : Sl → R Vl) {S : Sl} (p : Po D) : @Wp D (gOpV q h ga gb S) p = @Wp Vl (ga S) ⟨fun x S1 => @Wp Vl (gb S1) ⟨fun y S2 => @Wp D (if x.b && !q then .stuck else match h x.d y.d with | some d => .ok d S2 | none => .stuck) p, p.er⟩, p.er⟩ := by
  have h_q := @q_gOpV
  rw [Wq_Wp] at h_q
  first | exact h_q .. | apply h_q <;> assumption
theorem w_gIx (q : Bool) (ga : Sl → R Vl) (gb : Sl → R D) {S : Sl} (p : Po Vl) : @Wp Vl (gIx q ga gb S) p = @Wp Vl (ga S) ⟨fun x S1 => @Wp D (gb S1) ⟨fun i S2 => @Wp Vl (if x.b && !q then .stuck else match ixV x i with | some y => .ok y S2 | none => .stuck) p, p.er⟩, p.er⟩ := by
  have h_q := @q_gIx
  rw [Wq_Wp] at h_q
  first | exact h_q .. | apply h_q <;> assumption
theorem w_gPart_n {S : Sl} (p : Po (Option Int)) : @Wp (Option Int) (gPart none S) p = p.ok none S := by
  have h_q := @q_gPart_n
  rw [Wq_Wp] at h_q
  first | exact h_q .. | apply h_q <;> assumption
theorem w_gPart_s (g : Sl → R D) {S : Sl} (p : Po (Option Int)) : @Wp (Option Int) (gPart (some g) S) p = @Wp D (g S) ⟨fun d S1 => @Wp (Option Int) (match d with | .int i => .ok (some i) S1 | _ => .stuck) p, p.er⟩ := by
  have h_q := @q_gPart_s
  rw [Wq_Wp] at h_q
  first | exact h_q .. | apply h_q <;> assumption
theorem w_gSl (q : Bool) (ga : Sl → R Vl) (lo hi : Option (Sl → R D)) {S : Sl} (p : Po Vl) : @Wp Vl (gSl q ga lo hi S) p = @Wp Vl (ga S) ⟨fun x S1 => @Wp (Option Int) (gPart lo S1) ⟨fun l S2 => @Wp (Option Int) (gPart hi S2) ⟨fun h S3 => @Wp Vl (if x.b && !q then .stuck else match slV x l h with | some y => .ok y S3 | none => .stuck) p, p.er⟩, p.er⟩, p.er⟩ := by
  have h_q := @q_gSl
  rw [Wq_Wp] at h_q
  first | exact h_q .. | apply h_q <;> assumption
theorem w_gNew2 (q : Bool) (h : D → D → Option (List D)) (ga gb : Sl → R Vl) {S : Sl} (p : Po Vl) : @Wp Vl (gNew2 q h ga gb S) p = @Wp Vl (ga S) ⟨fun x S1 => @Wp Vl (gb S1) ⟨fun y S2 => @Wp Vl (if x.b && !q then .stuck else if x.lev && y.lev then (match h x.d y.d with | some ds => .ok ⟨false, 1, .lst ds⟩ S2 | none => .stuck) else .stuck) p, p.er⟩, p.er⟩ := by
  have h_q := @q_gNew2
  rw [Wq_Wp] at h_q
  first | exact h_q .. | apply h_q <;> assumption
theorem w_gCatT (ga gb : Sl → R D) {S : Sl} (p : Po D) : @Wp D (gCatT ga gb S) p = @Wp D (ga S) ⟨fun x S1 => @Wp D (gb S1) ⟨fun y S2 => @Wp D (match x, y with
  | .tup xs, .tup ys => if lineOk (xs ++ ys) then .ok (.tup (xs ++ ys)) S2 else .stuck
  | _, _ => .stuck) p, p.er⟩, p.er⟩ := by
  have h_q := @q_gCatT
  rw [Wq_Wp] at h_q
  first | exact h_q .. | apply h_q <;> assumption
theorem w_gTupOf (g : Sl → R Vl) {S : Sl} (p : Po D) : @Wp D (gTupOf g S) p = @Wp Vl (g S) ⟨fun x S1 => @Wp D (match x.d with
  | .lst ds => if x.lev then .ok (.tup ds) S1 else .stuck
  | .tup ds => .ok (.tup ds) S1
  | _ => .stuck) p, p.er⟩ := by
  have h_q := @q_gTupOf
  rw [Wq_Wp] at h_q
  first | exact h_q .. | apply h_q <;> assumption
theorem w_gSeq (b : Bool) (g : Sl → R Vl) {S : Sl} (p : Po (List D)) : @Wp (List D) (gSeq b g S) p = @Wp Vl (g S) ⟨fun x S1 => @Wp (List D) (if b || !x.b then (match itemsV x with | some ds => .ok ds S1 | none => .stuck) else .stuck) p, p.er⟩ := by
  have h_q := @q_gSeq
  rw [Wq_Wp] at h_q
  first | exact h_q .. | apply h_q <;> assumption
theorem w_gAnd (a b : Sl → R Bool) {S : Sl} (p : Po Bool) : @Wp Bool (gAnd a b S) p = @Wp Bool (a S) ⟨fun x S1 => if x = true then @Wp Bool (b S1) p else p.ok false S1, p.er⟩ := by
  have h_q := @q_gAnd
  rw [Wq_Wp] at h_q
  first | exact h_q .. | apply h_q <;> assumption
theorem w_gOr (a b : Sl → R Bool) {S : Sl} (p : Po Bool) : @Wp Bool (gOr a b S) p = @Wp Bool (a S) ⟨fun x S1 => if x = true then p.ok true S1 else @Wp Bool (b S1) p, p.er⟩ := by
  have h_q := @q_gOr
  rw [Wq_Wp] at h_q
  first | exact h_q .. | apply h_q <;> assumption
theorem w_gNot (a : Sl → R Bool) {S : Sl} (p : Po Bool) : @Wp Bool (gNot a S) p = @Wp Bool (a S) ⟨fun x S1 => p.ok (!x) S1, p.er⟩ := by
  have h_q := @q_gNot
  rw [Wq_Wp] at h_q
  first | exact h_q .. | apply h_q <;> assumption
theorem w_gAndV (a b : Sl → R D) {S : Sl} (p : Po D) : @Wp D (gAndV a b S) p = @Wp D (a S) ⟨fun x S1 => @Wp D (match x with | .bl true => b S1 | .bl false => .ok (.bl false) S1 | _ => .stuck) p, p.er⟩ := by
  have h_q := @q_gAndV
  rw [Wq_Wp] at h_q
  first | exact h_q .. | apply h_q <;> assumption
theorem w_gOrV (a b : Sl → R D) {S : Sl} (p : Po D) : @Wp D (gOrV a b S) p = @Wp D (a S) ⟨fun x S1 => @Wp D (match x with | .bl true => .ok (.bl true) S1 | .bl false => b S1 | _ => .stuck) p, p.er⟩ := by
  have h_q := @q_gOrV
  rw [Wq_Wp] at h_q
  first | exact h_q .. | apply h_q <;> assumption
theorem w_gNotV (a : Sl → R D) {S : Sl} (p : Po D) : @Wp D (gNotV a S) p = @Wp D (a S) ⟨fun x S1 => @Wp D (match x with | .bl b => .ok (.bl (!b)) S1 | _ => .stuck) p, p.er⟩ := by
  have h_q := @q_gNotV
  rw [Wq_Wp] at h_q
  first | exact h_q .. | apply h_q <;> assumption
theorem w_gIfE {α : Type} (c : Sl → R Bool) (a b : Sl → R α) {S : Sl} (p : Po α) : @Wp α (gIfE c a b S) p = @Wp Bool (c S) ⟨fun x S1 => if x = true then @Wp α (a S1) p else @Wp α (b S1) p, p.er⟩ := by
  have h_q := @q_gIfE
  rw [Wq_Wp] at h_q
  first | exact h_q .. | apply h_q <;> assumption
theorem w_gTru (g : Sl → R Vl) {S : Sl} (p : Po Bool) : @Wp Bool (gTru g S) p = @Wp Vl (g S) ⟨fun x S1 => @Wp Bool (match truD x.d with | some b => .ok b S1 | none => .stuck) p, p.er⟩ := by
  have h_q := @q_gTru
  rw [Wq_Wp] at h_q
  first | exact h_q .. | apply h_q <;> assumption
theorem w_gThen (a b : Sl → R Out) {S : Sl} (p : Po Out) : @Wp Out (gThen a b S) p = @Wp Out (a S) ⟨fun o S1 => match o with | .nx => @Wp Out (b S1) p | .ct => p.ok .ct S1 | .bk => p.ok .bk S1 | .rt x => p.ok (.rt x) S1, p.er⟩ := by
  have h_q := @q_gThen
  rw [Wq_Wp] at h_q
  first | exact h_q .. | apply h_q <;> assumption
theorem w_gDrop (g : Sl → R Vl) {S : Sl} (p : Po Out) : @Wp Out (gDrop g S) p = @Wp Vl (g S) ⟨fun _ S1 => p.ok .nx S1, p.er⟩ := by
  have h_q := @q_gDrop
  rw [Wq_Wp] at h_q
  first | exact h_q .. | apply h_q <;> assumption
theorem w_gRet (g : Sl → R Vl) {S : Sl} (p : Po Out) : @Wp Out (gRet g S) p = @Wp Vl (g S) ⟨fun x S1 => @Wp Out (if x.b then .stuck else .ok (.rt x) S1) p, p.er⟩ := by
  have h_q := @q_gRet
  rw [Wq_Wp] at h_q
  first | exact h_q .. | apply h_q <;> assumption
theorem w_gIfS (c : Sl → R Bool) (a b : Sl → R Out) {S : Sl} (p : Po Out) : @Wp Out (gIfS c a b S) p = @Wp Bool (c S) ⟨fun x S1 => if x = true then @Wp Out (a S1) p else @Wp Out (b S1) p, p.er⟩ := by
  have h_q := @q_gIfS
  rw [Wq_Wp] at h_q
  first | exact h_q .. | apply h_q <;> assumption
theorem w_gSet (i : Nat) (g : Sl → R Vl) {S : Sl} (p : Po Out) : @Wp Out (gSet i g S) p = @Wp Vl (g S) ⟨fun x S1 => @Wp Out (if x.b then .stuck else match S1[i]? with
  | some ⟨false, _⟩ => .ok .nx (S1.put i (some (x.k, x.d)))
  | _ => .stuck) p, p.er⟩ := by
  have h_q := @q_gSet
  rw [Wq_Wp] at h_q
  first | exact h_q .. | apply h_q <;> assumption
theorem w_gAsg (ga : D → Sl → Option Sl) (g : Sl → R D) {S : Sl} (p : Po Out) : @Wp Out (gAsg ga g S) p = @Wp D (g S) ⟨fun d S1 => @Wp Out (match ga d S1 with
  | some S2 => .ok .nx S2
  | none => .stuck) p, p.er⟩ := by
  have h_q := @q_gAsg
  rw [Wq_Wp] at h_q
  first | exact h_q .. | apply h_q <;> assumption
theorem w_gFor (gi : Sl → R (List D)) (ga : D → Sl → Option Sl) (gb : Sl → R Out) {S : Sl} (p : Po Out) : @Wp Out (gFor gi ga gb S) p = @Wp (List D) (gi S) ⟨fun xs S1 => @Wp Out (loopFor ga gb xs S1) p, p.er⟩ := by
  have h_q := @q_gFor
  rw [Wq_Wp] at h_q
  first | exact h_q .. | apply h_q <;> assumption
theorem w_gArV (g : Sl → R D) (r : Sl → R (List Ar)) {S : Sl} (p : Po (List Ar)) : @Wp (List Ar) (gArV g r S) p = @Wp D (g S) ⟨fun d S1 => @Wp (List Ar) (r S1) ⟨fun as S2 => p.ok (.v d :: as) S2, p.er⟩, p.er⟩ := by
  have h_q := @q_gArV
  rw [Wq_Wp] at h_q
  first | exact h_q .. | apply h_q <;> assumption
theorem w_gCall (f : Sl → R Vl) (ga : Sl → R (List Ar)) {S : Sl} (p : Po Vl) : @Wp Vl (gCall f ga S) p = @Wp (List Ar) (ga S) ⟨fun as S1 => if okIo as = true then (match argSl as S1 with
  | none => False
  | some T => @Wp Vl (f T) ⟨fun x T' => p.ok x (backSl as T' S1), fun c w T' => p.er c w (backSl as T' S1)⟩) else False, p.er⟩ := by
  have h_q := @q_gCall
  rw [Wq_Wp] at h_q
  first | exact h_q .. | apply h_q <;> assumption
theorem w_gCallP (f : Sl → R Vl) (ga : Sl → R (List Ar)) {S : Sl} (p : Po Vl) : @Wp Vl (gCallP f ga S) p = @Wp (List Ar) (ga S) ⟨fun as S1 => if allV as = true then (match argSl as S1 with
  | none => False
  | some T => @Wp Vl (f T) ⟨fun x _ => p.ok x S1, fun c w _ => p.er c w S1⟩) else False, p.er⟩ := by
  have h_q := @q_gCallP
  rw [Wq_Wp] at h_q
  first | exact h_q .. | apply h_q <;> assumption
theorem w_gLenSet (g : Sl → R Vl) {S : Sl} (p : Po D) : @Wp D (gLenSet g S) p = @Wp Vl (g S) ⟨fun x S1 => @Wp D (if x.lev then (match dLenSet x.d with | some d => .ok d S1 | none => .stuck) else .stuck) p, p.er⟩ := by
  have h_q := @q_gLenSet
  rw [Wq_Wp] at h_q
  first | exact h_q .. | apply h_q <;> assumption
theorem w_gRaise (C : Addr) (g : Sl → R D) {S : Sl} (p : Po Out) : @Wp Out (gRaise C g S) p = @Wp D (g S) ⟨fun d S1 => @Wp Out (match d with
  | .str z => if z.length ≤ 1000 then .err C (some ("what", .str z)) S1 else .stuck
  | _ => .stuck) p, p.er⟩ := by
  have h_q := @q_gRaise
  rw [Wq_Wp] at h_q
  first | exact h_q .. | apply h_q <;> assumption
theorem w_gIt (h : List D → Option (List D)) (ga : Sl → R (List D)) {S : Sl} (p : Po (List D)) : @Wp (List D) (gIt h ga S) p = @Wp (List D) (ga S) ⟨fun ds S1 => @Wp (List D) (match h ds with | some xs => .ok xs S1 | none => .stuck) p, p.er⟩ := by
  have h_q := @q_gIt
  rw [Wq_Wp] at h_q
  first | exact h_q .. | apply h_q <;> assumption
theorem w_gEnum (b : Bool) (g : Sl → R Vl) {S : Sl} (p : Po (List D)) : @Wp (List D) (gEnum b g S) p = @Wp Vl (g S) ⟨fun x S1 => @Wp (List D) (match listV b x with | some ds => .ok (enumD ds) S1 | none => .stuck) p, p.er⟩ := by
  have h_q := @q_gEnum
  rw [Wq_Wp] at h_q
  first | exact h_q .. | apply h_q <;> assumption
theorem w_gLRange (g : Sl → R D) {S : Sl} (p : Po Vl) : @Wp Vl (gLRange g S) p = @Wp D (g S) ⟨fun d S1 => @Wp Vl (match dLRange [d] with | some xs => .ok ⟨false, 1, .lst xs⟩ S1 | none => .stuck) p, p.er⟩ := by
  have h_q := @q_gLRange
  rw [Wq_Wp] at h_q
  first | exact h_q .. | apply h_q <;> assumption
theorem w_gArIo (i : Nat) (r : Sl → R (List Ar)) {S : Sl} (p : Po (List Ar)) : @Wp (List Ar) (gArIo i r S) p = match S[i]? with
  | some ⟨_, some _⟩ => @Wp (List Ar) (r S) ⟨fun as S2 => p.ok (.io i :: as) S2, p.er⟩
  | _ => False := by
  have h_q := @q_gArIo
  rw [Wq_Wp] at h_q
  first | exact h_q .. | apply h_q <;> assumption
theorem w_gIxN (i : Nat) (gb : Sl → R D) {S : Sl} (p : Po Vl) : @Wp Vl (gIxN i gb S) p = match S[i]? with
  | some ⟨_, some _⟩ => @Wp D (gb S) ⟨fun j S2 => @Wp Vl (match S2[i]? with
    | some ⟨_, some (k, d)⟩ => (match ixV ⟨true, k, d⟩ j with | some y => .ok y S2 | none => .stuck)
    | _ => .stuck) p, p.er⟩
  | _ => False := by
  have h_q := @q_gIxN
  rw [Wq_Wp] at h_q
  first | exact h_q .. | apply h_q <;> assumption
theorem w_gApd (i : Nat) (g : Sl → R Vl) {S : Sl} (p : Po D) : @Wp D (gApd i g S) p = match S[i]? with
  | some ⟨_, some (_ + 1, .lst _)⟩ => @Wp Vl (g S) ⟨fun x S1 => @Wp D (if x.b then .stuck else (match S1[i]? with
    | some ⟨_, some (k + 1, .lst xs)⟩ => if decide (xs.length < 16777216) && (x.k == k || k == 0 || x.d.atom) then .ok .non (S1.put i (some (k + 1, .lst (xs ++ [x.d])))) else .stuck
    | _ => .stuck)) p, p.er⟩
  | _ => False := by
  have h_q := @q_gApd
  rw [Wq_Wp] at h_q
  first | exact h_q .. | apply h_q <;> assumption
theorem w_gPopAt (i : Nat) (g : Sl → R D) {S : Sl} (p : Po Vl) : @Wp Vl (gPopAt i g S) p = match S[i]? with
  | some ⟨_, some (_ + 1, .lst _)⟩ => @Wp D (g S) ⟨fun y S1 => @Wp Vl (match S1[i]?, y with
    | some ⟨_, some (k + 1, .lst xs)⟩, .int n => if decide (-(2 ^ 63) ≤ n ∧ n < 2 ^ 63) then (match seqIndex? n xs.length with
      | some j => (match xs[j]? with
        | some d => .ok ⟨false, k, d⟩ (S1.put i (some (k + 1, .lst (xs.eraseIdx j))))
        | none => .stuck)
      | none => .stuck) else .stuck
    | _, _ => .stuck) p, p.er⟩
  | _ => False := by
  have h_q := @q_gPopAt
  rw [Wq_Wp] at h_q
  first | exact h_q .. | apply h_q <;> assumption
theorem w_gSetIx (i : Nat) (gx gj : Sl → R D) {S : Sl} (p : Po Out) : @Wp Out (gSetIx i gx gj S) p = @Wp D (gx S) ⟨fun d S1 => match S1[i]? with
  | some ⟨_, some (_ + 1, .lst _)⟩ => @Wp D (gj S1) ⟨fun y S2 => @Wp Out (match S2[i]?, y with
    | some ⟨_, some (k + 1, .lst xs)⟩, .int n => if k == 0 || d.atom then (match ixN xs.length n with
      | some j => .ok .nx (S2.put i (some (k + 1, .lst (xs.set j d))))
      | none => .stuck) else .stuck
    | _, _ => .stuck) p, p.er⟩
  | _ => False, p.er⟩ := by
  have h_q := @q_gSetIx
  rw [Wq_Wp] at h_q
  first | exact h_q .. | apply h_q <;> assumption
theorem w_gDPut (i : Nat) (gx gk : Sl → R D) {S : Sl} (p : Po Out) : @Wp Out (gDPut i gx gk S) p = @Wp D (gx S) ⟨fun d S1 => match S1[i]? with
  | some ⟨_, some (_, _)⟩ => @Wp D (gk S1) ⟨fun y S2 => @Wp Out (match S2[i]? with
    | some ⟨_, some (1, c)⟩ => (match dPut c y d with
      | some c' => .ok .nx (S2.put i (some (1, c')))
      | none => .stuck)
    | _ => .stuck) p, p.er⟩
  | _ => False, p.er⟩ := by
  have h_q := @q_gDPut
  rw [Wq_Wp] at h_q
  first | exact h_q .. | apply h_q <;> assumption
end
section
variable (S : Sl)
end
theorem w_loop_c (ga : D → Sl → Option Sl) (gb : Sl → R Out) (d : D) (ds : List D) (S : Sl) (p : Po Out) : @Wp Out (loopFor ga gb (d :: ds) S) p = match ga d S with
  | none => False
  | some S1 => @Wp Out (gb S1) ⟨fun o S2 => match o with
    | .nx => @Wp Out (loopFor ga gb ds S2) p
    | .ct => @Wp Out (loopFor ga gb ds S2) p
    | .bk => p.ok .nx S2
    | .rt x => p.ok (.rt x) S2, p.er⟩ := by
  have h_q := @q_loop_c
  rw [Wq_Wp] at h_q
  first | exact h_q .. | apply h_q <;> assumption
theorem w_fn {n m : Nat} {gb : Sl → R Out} {T : Sl} (p : Po Vl) : @Wp Vl (fnSem n m gb T) p = @Wp Out (gb (T ++ List.replicate m ⟨false, none⟩)) ⟨fun o S' => match o with
      | .rt x => n ≤ S'.length ∧ p.ok x (keepN n S')
      | .nx => n ≤ S'.length ∧ p.ok ⟨false, 0, .non⟩ (keepN n S')
      | _ => False, fun c w S' => n ≤ S'.length ∧ p.er c w (keepN n S')⟩ := by
  have h_q := @q_fn
  rw [Wq_Wp] at h_q
  first | exact h_q .. | apply h_q <;> assumption
theorem w_loop {α : Type} (c : α → D) (I : List α → Sl → Prop) {ga : D → Sl → Option Sl} {gb : Sl → R Out} {p : Po Out} :
    ∀ {L pre : List α} {S : Sl}, I pre S → (∀ q a r S, pre ++ L = q ++ a :: r → I q S → match ga (c a) S with
      | none => False
      | some S1 => @Wp Out (gb S1) ⟨fun o S2 => match o with
        | .nx => I (q ++ [a]) S2
        | .ct => I (q ++ [a]) S2
        | .bk => p.ok .nx S2
        | .rt x => p.ok (.rt x) S2, p.er⟩) → (∀ S, I (pre ++ L) S → p.ok .nx S) → @Wp Out (loopFor ga gb (L.map c) S) p := by
  have h_q := @q_loop
  rw [Wq_Wp] at h_q
  first | exact h_q .. | apply h_q <;> assumption
theorem w_loopN (c : Nat → D) (I : Nat → Sl → Prop) {ga : D → Sl → Option Sl} {gb : Sl → R Out} {p : Po Out} {n : Nat} {S : Sl} (h0 : I 0 S)
    (hs : ∀ k S, k < n → I k S → match ga (c k) S with
      | none => False
      | some S1 => @Wp Out (gb S1) ⟨fun o S2 => match o with
        | .nx => I (k + 1) S2
        | .ct => I (k + 1) S2
        | .bk => p.ok .nx S2
        | .rt x => p.ok (.rt x) S2, p.er⟩) (hf : ∀ S, I n S → p.ok .nx S) : @Wp Out (loopFor ga gb ((List.range n).map c) S) p := by
  have h_q := @q_loopN
  rw [Wq_Wp] at h_q
  first | exact h_q .. | apply h_q <;> assumption
theorem w_lc {α : Type} (c : α → D) (f : α → Bool) (e : α → D) (L : List α) {vs : List Nat} {gi : Sl → R (List D)} {ga : D → Sl → Option Sl} {gt : Sl → R Bool} {ge : Sl → R D} {S : Sl} {p : Po Vl}
    (hi : @Wp (List D) (gi S) ⟨fun xs S' => xs = L.map c ∧ S' = S, noE⟩) (hw : wipeOk vs S = true) (hl : L.length ≤ 16777216)
    (h : ∀ a ∈ L, match ga (c a) (S.wipe vs) with
      | none => False
      | some S1 => @Wp Bool (gt S1) ⟨fun b S2 => b = f a ∧ (f a = true → @Wp D (ge S2) ⟨fun d _ => d = e a, noE⟩), noE⟩)
    (hq : p.ok ⟨false, 1, .lst ((L.filter f).map e)⟩ S) : @Wp Vl (gLc true vs gi ga gt ge S) p := by
  have h_q := @q_lc
  rw [Wq_Wp] at h_q
  first | exact h_q .. | apply h_q <;> assumption
section
theorem w_gNeg (g : Sl → R D) {S : Sl} (p : Po D) : @Wp D (gNeg g S) p = @Wp D (g S) ⟨fun x S1 => @Wp D (match x with
  | .int i => .ok (.int (-i)) S1
  | _ => .stuck) p, p.er⟩ := by
  have h_q := @q_gNeg
  rw [Wq_Wp] at h_q
  first | exact h_q .. | apply h_q <;> assumption
theorem w_gTRange (g : Sl → R D) {S : Sl} (p : Po D) : @Wp D (gTRange g S) p = @Wp D (g S) ⟨fun d S1 => @Wp D (match dLRange [d] with | some xs => .ok (.tup xs) S1 | none => .stuck) p, p.er⟩ := by
  have h_q := @q_gTRange
  rw [Wq_Wp] at h_q
  first | exact h_q .. | apply h_q <;> assumption
theorem w_gEnumS (b : Bool) (g : Sl → R Vl) {S : Sl} (p : Po (List D)) : @Wp (List D) (gEnumS b g S) p = @Wp Vl (g S) ⟨fun x S1 => @Wp (List D) (match seqV b x with | some ds => .ok (enumD ds) S1 | none => .stuck) p, p.er⟩ := by
  have h_q := @q_gEnumS
  rw [Wq_Wp] at h_q
  first | exact h_q .. | apply h_q <;> assumption
theorem w_gDIx (ga : Sl → R Vl) (gk : Sl → R D) {S : Sl} (p : Po D) : @Wp D (gDIx ga gk S) p = @Wp Vl (ga S) ⟨fun x S1 => @Wp D (gk S1) ⟨fun y S2 => @Wp D (if x.lev then (match dLook x.d y with
  | some (some d) => .ok d S2
  | _ => .stuck) else .stuck) p, p.er⟩, p.er⟩ := by
  have h_q := @q_gDIx
  rw [Wq_Wp] at h_q
  first | exact h_q .. | apply h_q <;> assumption
theorem w_gDGet2 (ga : Sl → R Vl) (gk gx : Sl → R D) {S : Sl} (p : Po D) : @Wp D (gDGet2 ga gk gx S) p = @Wp Vl (ga S) ⟨fun x S1 => if (x.lev && isDict x.d) = true then @Wp D (gk S1) ⟨fun y S2 => @Wp D (gx S2) ⟨fun z S3 => @Wp D (match dLook x.d y with
  | some o => .ok (o.getD z) S3
  | none => .stuck) p, p.er⟩, p.er⟩ else False, p.er⟩ := by
  have h_q := @q_gDGet2
  rw [Wq_Wp] at h_q
  first | exact h_q .. | apply h_q <;> assumption
theorem w_gBest (h : D → D → Option D) (ga : Sl → R Vl) (gb : Sl → R D) {S : Sl} (p : Po D) : @Wp D (gBest h ga gb S) p = @Wp Vl (ga S) ⟨fun x S1 => @Wp D (gb S1) ⟨fun y S2 => @Wp D (if x.lev then (match h x.d y with | some d => .ok d S2 | none => .stuck) else .stuck) p, p.er⟩, p.er⟩ := by
  have h_q := @q_gBest
  rw [Wq_Wp] at h_q
  first | exact h_q .. | apply h_q <;> assumption
theorem w_gLend (i : Nat) (g : Sl → R D) {S : Sl} (p : Po D) : @Wp D (gLend i g S) p = match S[i]? with
  | some ⟨_, some (_, d)⟩ => @Wp D (g (S.put i (some (0, d)))) ⟨fun x _ => if bare x = true then p.ok x S else False, fun _ _ _ => False⟩
  | _ => False := by
  have h_q := @q_gLend
  rw [Wq_Wp] at h_q
  first | exact h_q .. | apply h_q <;> assumption
theorem w_gFzS (i : Nat) (g : Sl → R Out) {S : Sl} (p : Po Out) : @Wp Out (gFzS i g S) p = match S[i]? with
  | some ⟨_, some (_, d)⟩ => @Wp Out (g (S.put i (some (0, d)))) p
  | _ => False := by
  have h_q := @q_gFzS
  rw [Wq_Wp] at h_q
  first | exact h_q .. | apply h_q <;> assumption
theorem w_gAug (i : Nat) (h : D → D → Option D) (gx : Sl → R D) {S : Sl} (p : Po Out) : @Wp Out (gAug i h gx S) p = match S[i]? with
  | some ⟨_, some (_, x0)⟩ => if x0.atom = true then @Wp D (gx S) ⟨fun y S2 => @Wp Out (match h x0 y, S2[i]? with
    | some z, some ⟨false, _⟩ => .ok .nx (S2.put i (some (0, z)))
    | _, _ => .stuck) p, p.er⟩ else False
  | _ => False := by
  have h_q := @q_gAug
  rw [Wq_Wp] at h_q
  first | exact h_q .. | apply h_q <;> assumption
theorem w_gExtV (q : Bool) (i : Nat) (g : Sl → R Vl) {S : Sl} (p : Po D) : @Wp D (gExtPl q (plVar i) g S) p = match S[i]? with
  | some ⟨_, some (_ + 1, .lst _)⟩ => @Wp Vl (g S) ⟨fun y S1 => @Wp D (match S1[i]?, y.d with
    | some ⟨_, some (k + 1, .lst xs)⟩, .lst ys => if decide (xs.length + ys.length ≤ 16777216) && (!y.b && y.k == k + 1 || (k == 0 && !y.b)) then .ok .non (S1.put i (some (k + 1, .lst (xs ++ ys)))) else .stuck
    | _, _ => .stuck) p, p.er⟩
  | _ => False := by
  have h_q := @q_gExtV
  rw [Wq_Wp] at h_q
  first | exact h_q .. | apply h_q <;> assumption
theorem w_lcO {α : Type} (c : α → D) (e : α → D) (L : List α) {vs : List Nat} {gi : Sl → R (List D)} {ga : D → Sl → Option Sl} {ge : Sl → R Vl} {S : Sl} {p : Po Vl}
    (hi : @Wp (List D) (gi S) ⟨fun xs S' => xs = L.map c ∧ S' = S, noE⟩) (hw : wipeOk vs S = true) (hl : L.length ≤ 16777216)
    (h : ∀ a ∈ L, match ga (c a) (S.wipe vs) with
      | none => False
      | some S1 => @Wp Vl (ge S1) ⟨fun d _ => d = ⟨false, 1, e a⟩, noE⟩)
    (hq : p.ok ⟨false, 2, .lst (L.map e)⟩ S) : @Wp Vl (gLcO 1 vs gi ga gYes ge S) p := by
  have h_q := @q_lcO
  rw [Wq_Wp] at h_q
  first | exact h_q .. | apply h_q <;> assumption
theorem w_while (I : Nat → Sl → Prop) {gc : Sl → R Bool} {gb : Sl → R Out} {p : Po Out}
    (hs : ∀ m S, I m S → @Wp Bool (gc S) ⟨fun b S1 => if b = true then (∃ m', m = m' + 1 ∧ @Wp Out (gb S1) ⟨fun o S2 => match o with
      | .nx => ∃ m'', m'' ≤ m' ∧ I m'' S2
      | .ct => ∃ m'', m'' ≤ m' ∧ I m'' S2
      | .bk => p.ok .nx S2
      | .rt x => p.ok (.rt x) S2, p.er⟩) else p.ok .nx S1, p.er⟩) : ∀ (k m : Nat) {S : Sl}, m < k → I m S → @Wp Out (gWhile k gc gb S) p := by
  have h_q := @q_while
  rw [Wq_Wp] at h_q
  first | exact h_q .. | apply h_q <;> assumption
theorem w_lc2 {α β : Type} (c : α → D) (L : List α) (c1 : α → β → D) (L1 : α → List β) (e : α → β → D) {vs vs1 : List Nat} {gi gi1 : Sl → R (List D)} {ga ga1 : D → Sl → Option Sl} {ge : Sl → R D} {S : Sl} {p : Po Vl}
    (hi : @Wp (List D) (gi S) ⟨fun xs S' => xs = L.map c ∧ S' = S, noE⟩) (hw : wipeOk vs S = true) (hl : (L.flatMap fun a => (L1 a).map (e a)).length ≤ 16777216)
    (h : ∀ a ∈ L, match ga (c a) (S.wipe vs) with
      | none => False
      | some S1 => @Wp (List D) (gi1 S1) ⟨fun ys S3 => ys = (L1 a).map (c1 a) ∧ wipeOk vs1 S3 = true ∧ ∀ b ∈ L1 a, match ga1 (c1 a b) (S3.wipe vs1) with
        | none => False
        | some S4 => @Wp D (ge S4) ⟨fun d _ => d = e a b, noE⟩, noE⟩)
    (hq : p.ok ⟨false, 1, .lst (L.flatMap fun a => (L1 a).map (e a))⟩ S) : @Wp Vl (gLc2 vs vs1 gi ga gYes gi1 ga1 gYes ge S) p := by
  have h_q := @q_lc2
  rw [Wq_Wp] at h_q
  first | exact h_q .. | apply h_q <;> assumption
end
end VL

set_option Elab.async false
set_option linter.all false
set_option autoImplicit false
namespace VL
/-! ### sums over the first numbers -/
def sumN (n : Nat) (g : Nat → Int) : Int := ((List.range n).map g).sum
theorem sumN_0 (g : Nat → Int) : sumN 0 g = 0 := rfl
theorem sumN_s (n : Nat) (g : Nat → Int) : sumN (n + 1) g = sumN n g + g n := by
  simp [sumN, List.range_succ, List.sum_append]
theorem sumN_congr {n : Nat} {g h : Nat → Int} (e : ∀ i, i < n → g i = h i) : sumN n g = sumN n h := by
  induction n with
  | zero => rfl
  | succ n ih => rw [sumN_s, sumN_s, ih fun i hi => e i (by omega), e n (by omega)]
theorem sumN_add (n : Nat) (g h : Nat → Int) : sumN n (fun i => g i + h i) = sumN n g + sumN n h := by
  induction n with
  | zero => rfl
  | succ n ih => rw [sumN_s, sumN_s, sumN_s, ih]; omega
theorem sumN_sub (n : Nat) (g h : Nat → Int) : sumN n (fun i => g i - h i) = sumN n g - sumN n h := by
  induction n with
  | zero => rfl
  | succ n ih => rw [sumN_s, sumN_s, sumN_s, ih]; omega
theorem sumN_zero (n : Nat) : sumN n (fun _ => 0) = 0 := by
  induction n with
  | zero => rfl
  | succ n ih => rw [sumN_s, ih]; rfl
theorem sumN_mul (n : Nat) (c : Int) (g : Nat → Int) : sumN n (fun i => c * g i) = c * sumN n g := by
  induction n with
  | zero => simp [sumN_0]
  | succ n ih => rw [sumN_s, sumN_s, ih, Int.mul_add]
theorem sumN_le {n : Nat} {g h : Nat → Int} (e : ∀ i, i < n → g i ≤ h i) : sumN n g ≤ sumN n h := by
  induction n with
  | zero => exact Int.le_refl _
  | succ n ih =>
    have := ih fun i hi => e i (by omega)
    have := e n (by omega)
    rw [sumN_s, sumN_s]; omega
theorem sumN_lt {n : Nat} {g h : Nat → Int} (e : ∀ i, i < n → g i ≤ h i) {k : Nat} (hk : k < n) (l : g k < h k) : sumN n g < sumN n h := by
  induction n with
  | zero => omega
  | succ n ih =>
    rw [sumN_s, sumN_s]
    by_cases hkn : k = n
    · subst hkn
      have := sumN_le (n := k) (g := g) (h := h) fun i hi => e i (by omega)
      omega
    · have := ih (fun i hi => e i (by omega)) (by omega)
      have := e n (by omega)
      omega
theorem sumN_swap (n m : Nat) (f : Nat → Nat → Int) : sumN n (fun i => sumN m fun j => f i j) = sumN m fun j => sumN n fun i => f i j := by
  induction n with
  | zero => simp only [sumN_0]; exact (sumN_zero m).symm
  | succ n ih =>
    rw [sumN_s, ih, ← sumN_add]
    exact sumN_congr fun j _ => (sumN_s n _).symm
theorem sumN_one {n c : Nat} (x : Int) (h : c < n) : sumN n (fun j => if j = c then x else 0) = x := by
  induction n with
  | zero => omega
  | succ n ih =>
    rw [sumN_s]
    by_cases hc : n = c
    · subst hc
      rw [if_pos rfl, sumN_congr (h := fun _ => 0) fun i hi => if_neg (by omega), sumN_zero]; omega
    · rw [if_neg hc, ih (by omega)]; omega
/-! ### Hall -/
def cnt (n : Nat) (p : Nat → Bool) : Int := sumN n fun i => if p i then 1 else 0
theorem cnt_le {n : Nat} {p q : Nat → Bool} (h : ∀ i, i < n → p i = true → q i = true) : cnt n p ≤ cnt n q := sumN_le fun i hi => by
  cases hp : p i with
  | false => cases q i <;> simp
  | true => rw [h i hi hp]; exact Int.le_refl _
theorem cnt_lt {n : Nat} {p q : Nat → Bool} (h : ∀ i, i < n → p i = true → q i = true) {k : Nat} (hk : k < n) (h1 : p k = false) (h2 : q k = true) : cnt n p < cnt n q := sumN_lt (fun i hi => by
  cases hp : p i with
  | false => cases q i <;> simp
  | true => rw [h i hi hp]; exact Int.le_refl _) hk (by simp [h1, h2])
theorem cnt_or_and (n : Nat) (p q : Nat → Bool) : cnt n (fun i => p i || q i) + cnt n (fun i => p i && q i) = cnt n p + cnt n q := by
  unfold cnt
  rw [← sumN_add, ← sumN_add]
  exact sumN_congr fun i _ => by cases hp : p i <;> cases hq : q i <;> simp [hp, hq]
theorem cnt_pos {n : Nat} {p : Nat → Bool} (h : 0 < cnt n p) : ∃ j, j < n ∧ p j = true := by
  apply Classical.byContradiction
  intro hn
  have : cnt n p = 0 := by
    unfold cnt
    rw [sumN_congr (h := fun _ => 0) fun i hi => ?_, sumN_zero]
    cases hp : p i with
    | false => rfl
    | true => exact absurd ⟨i, hi, hp⟩ hn
  omega
theorem cnt_one {n c : Nat} (h : c < n) : cnt n (fun j => j == c) = 1 := by
  unfold cnt
  rw [sumN_congr (h := fun j => if j = c then 1 else 0) fun i _ => by by_cases e : i = c <;> simp [e]]
  exact sumN_one 1 h
def U (n : Nat) (A : Nat → Nat → Bool) (I : Nat → Bool) (j : Nat) : Bool := (List.range n).any fun i => I i && A i j
theorem U_iff {n : Nat} {A : Nat → Nat → Bool} {I : Nat → Bool} {j : Nat} : U n A I j = true ↔ ∃ i, i < n ∧ I i = true ∧ A i j = true := by
  unfold U
  rw [List.any_eq_true]
  constructor
  · rintro ⟨i, hi, h⟩
    rw [Bool.and_eq_true] at h
    exact ⟨i, List.mem_range.mp hi, h.1, h.2⟩
  · rintro ⟨i, hi, h1, h2⟩
    exact ⟨i, List.mem_range.mpr hi, by rw [h1, h2]; rfl⟩
def Hall (n : Nat) (A : Nat → Nat → Bool) : Prop := ∀ I : Nat → Bool, cnt n I ≤ cnt n (U n A I)
def rmA (i x : Nat) (A : Nat → Nat → Bool) : Nat → Nat → Bool := fun a b => A a b && !(a == i && b == x)
theorem rmA_le {i x a b : Nat} {A : Nat → Nat → Bool} (h : rmA i x A a b = true) : A a b = true := (Bool.and_eq_true_iff.mp h).1
theorem rmA_ne {i x a b : Nat} {A : Nat → Nat → Bool} (h : A a b = true) (hn : ¬ (a = i ∧ b = x)) : rmA i x A a b = true := by
  unfold rmA
  rw [h]
  by_cases h1 : a = i
  · have h2 : b ≠ x := fun e => hn ⟨h1, e⟩
    simp [h2]
  · simp [h1]
theorem not_hall {n : Nat} {A : Nat → Nat → Bool} {i x : Nat} (hA : Hall n A) (hn : ¬ Hall n (rmA i x A)) : ∃ I : Nat → Bool, I i = true ∧ cnt n (U n (rmA i x A) I) < cnt n I := by
  obtain ⟨I, hI⟩ := Classical.not_forall.mp hn
  refine ⟨I, ?_, by omega⟩
  apply Classical.byContradiction
  intro h
  refine hI (Int.le_trans (hA I) (cnt_le fun j hj hu => ?_))
  obtain ⟨a, h1, h2, h3⟩ := U_iff.mp hu
  exact U_iff.mpr ⟨a, h1, h2, rmA_ne h3 fun e => h (e.1 ▸ h2)⟩
theorem hall_perm (n : Nat) : ∀ (w : Nat) (A : Nat → Nat → Bool), sumN n (fun i => cnt n (A i)) ≤ (w : Int) → Hall n A →
    ∃ f : Nat → Nat, (∀ i, i < n → f i < n ∧ A i (f i) = true) ∧ ∀ i j, i < n → j < n → f i = f j → i = j := by
  intro w
  induction w with
  | zero =>
    intro A hw hA
    refine ⟨id, fun i hi => ?_, fun i j _ _ e => e⟩
    exfalso
    have h1 : cnt n (fun j => j == i) ≤ cnt n (U n A fun j => j == i) := hA _
    rw [cnt_one hi] at h1
    have h2 : cnt n (U n A fun j => j == i) ≤ cnt n (A i) := cnt_le fun j _ hu => by
      obtain ⟨a, _, h3, h4⟩ := U_iff.mp hu
      rw [eq_of_beq h3] at h4; exact h4
    have h3 : sumN n (fun _ => 0) < sumN n (fun i => cnt n (A i)) := sumN_lt (fun k _ => by
      have : sumN n (fun _ => 0) ≤ cnt n (A k) := sumN_le fun j _ => by cases A k j <;> simp
      rw [sumN_zero] at this; exact this) hi (by omega)
    rw [sumN_zero] at h3
    omega
  | succ w ih =>
    intro A hw hA
    by_cases h2 : ∃ i x y, i < n ∧ x < n ∧ y < n ∧ x ≠ y ∧ A i x = true ∧ A i y = true
    · obtain ⟨i, x, y, hi, hx, hy, hxy, ax, ay⟩ := h2
      have step : ∀ z, z < n → A i z = true → Hall n (rmA i z A) → ∃ f : Nat → Nat, (∀ i, i < n → f i < n ∧ A i (f i) = true) ∧ ∀ i j, i < n → j < n → f i = f j → i = j := by
        intro z hz az hH
        have hlt : sumN n (fun a => cnt n (rmA i z A a)) < sumN n (fun a => cnt n (A a)) := sumN_lt (fun a _ => cnt_le fun b _ h => rmA_le h) hi (cnt_lt (fun b _ h => rmA_le h) hz (by simp [rmA]) az)
        obtain ⟨f, f1, f2⟩ := ih (rmA i z A) (by omega) hH
        exact ⟨f, fun k hk => ⟨(f1 k hk).1, rmA_le (f1 k hk).2⟩, f2⟩
      by_cases hX : Hall n (rmA i x A)
      · exact step x hx ax hX
      by_cases hY : Hall n (rmA i y A)
      · exact step y hy ay hY
      exfalso
      obtain ⟨I, iI, lI⟩ := not_hall hA hX
      obtain ⟨J, iJ, lJ⟩ := not_hall hA hY
      have e1 := cnt_or_and n I J
      have e2 := cnt_or_and n (U n (rmA i x A) I) (U n (rmA i y A) J)
      have e3 : cnt n (fun a => I a || J a) ≤ cnt n (fun b => U n (rmA i x A) I b || U n (rmA i y A) J b) := Int.le_trans (hA _) (cnt_le fun b _ hu => by
        obtain ⟨a, h1, h2, h3⟩ := U_iff.mp hu
        rw [Bool.or_eq_true]
        by_cases hai : a = i
        · subst hai
          by_cases hbx : b = x
          · exact .inr (U_iff.mpr ⟨a, h1, iJ, rmA_ne h3 fun e => hxy (hbx.symm.trans e.2)⟩)
          · exact .inl (U_iff.mpr ⟨a, h1, iI, rmA_ne h3 fun e => hbx e.2⟩)
        · rcases Bool.or_eq_true _ _ ▸ h2 with h | h
          · exact .inl (U_iff.mpr ⟨a, h1, h, rmA_ne h3 fun e => hai e.1⟩)
          · exact .inr (U_iff.mpr ⟨a, h1, h, rmA_ne h3 fun e => hai e.1⟩))
      have e4 : cnt n (fun a => (I a && J a) && !(a == i)) ≤ cnt n (fun b => U n (rmA i x A) I b && U n (rmA i y A) J b) := Int.le_trans (hA _) (cnt_le fun b _ hu => by
        obtain ⟨a, h1, h2, h3⟩ := U_iff.mp hu
        simp only [Bool.and_eq_true, Bool.not_eq_true', beq_eq_false_iff_ne] at h2
        rw [Bool.and_eq_true]
        exact ⟨U_iff.mpr ⟨a, h1, h2.1.1, rmA_ne h3 fun e => h2.2 e.1⟩, U_iff.mpr ⟨a, h1, h2.1.2, rmA_ne h3 fun e => h2.2 e.1⟩⟩)
      have e5 : cnt n (fun a => I a && J a) = cnt n (fun a => (I a && J a) && !(a == i)) + 1 := by
        rw [← cnt_one hi]
        unfold cnt
        rw [← sumN_add]
        refine sumN_congr fun a _ => ?_
        by_cases hai : a = i
        · subst hai; simp [iI, iJ]
        · have : (a == i) = false := by simp [hai]
          cases h1 : I a <;> cases h2 : J a <;> simp [h1, h2, hai]
      omega
    · have hex : ∀ i, i < n → ∃ c, c < n ∧ A i c = true := fun i hi => by
        have h1 : cnt n (fun j => j == i) ≤ cnt n (U n A fun j => j == i) := hA _
        rw [cnt_one hi] at h1
        obtain ⟨c, hc, hu⟩ := cnt_pos (n := n) (p := U n A fun j => j == i) (by omega)
        obtain ⟨a, _, h3, h4⟩ := U_iff.mp hu
        exact ⟨c, hc, by rw [eq_of_beq h3] at h4; exact h4⟩
      have hch : ∀ i, ∃ c, i < n → c < n ∧ A i c = true := fun i => by
        by_cases hi : i < n
        · obtain ⟨c, h⟩ := hex i hi; exact ⟨c, fun _ => h⟩
        · exact ⟨0, fun h => absurd h hi⟩
      refine ⟨fun i => Classical.choose (hch i), fun i hi => Classical.choose_spec (hch i) hi, fun i j hi hj e => ?_⟩
      apply Classical.byContradiction
      intro hij
      have s1 := Classical.choose_spec (hch i) hi
      have s2 := Classical.choose_spec (hch j) hj
      simp only at e
      rw [← e] at s2
      generalize Classical.choose (hch i) = c at s1 s2
      have h1 : cnt n (fun k => k == i || k == j) ≤ cnt n (U n A fun k => k == i || k == j) := hA _
      have h3 := cnt_or_and n (fun k => k == i) (fun k => k == j)
      have h4 : cnt n (fun k => (k == i) && (k == j)) = 0 := by
        unfold cnt
        rw [sumN_congr (h := fun _ => 0) fun a _ => ?_, sumN_zero]
        by_cases ha : a = i
        · have : (a == j) = false := by simp [ha, hij]
          simp [this]
        · simp [ha]
      rw [cnt_one hi, cnt_one hj, h4] at h3
      have h5 : cnt n (U n A fun k => k == i || k == j) ≤ cnt n (fun b => b == c) := cnt_le fun b hb hu => by
        obtain ⟨a, ha, g1, g2⟩ := U_iff.mp hu
        apply Classical.byContradiction
        intro hbc
        have hbc : b ≠ c := fun e => hbc (by simp [e])
        rcases Bool.or_eq_true _ _ ▸ g1 with g | g
        · rw [eq_of_beq g] at g2; exact h2 ⟨i, b, c, hi, hb, s1.1, hbc, g2, s1.2⟩
        · rw [eq_of_beq g] at g2; exact h2 ⟨j, b, c, hj, hb, s1.1, hbc, g2, s2.2⟩
      rw [cnt_one s1.1] at h5
      omega
/-! ### a square with equal sums has a permutation without a 0 -/
structure Bal (n : Nat) (t : Int) (M : Nat → Nat → Int) : Prop where
  ge : ∀ i j, i < n → j < n → 0 ≤ M i j
  row : ∀ i, i < n → sumN n (M i) = t
  col : ∀ j, j < n → sumN n (fun i => M i j) = t
theorem Bal.hall {n : Nat} {t : Int} {M : Nat → Nat → Int} (b : Bal n t M) (ht : 0 < t) : Hall n fun i j => decide (0 < M i j) := by
  intro I
  have h1 : sumN n (fun i => sumN n fun j => if I i then M i j else 0) = t * cnt n I := by
    unfold cnt
    rw [← sumN_mul]
    refine sumN_congr fun i hi => ?_
    cases hI : I i with
    | false => simp [sumN_zero]
    | true => simp only [if_true, Int.mul_one]; exact b.row i hi
  have h2 : sumN n (fun j => sumN n fun i => if I i then M i j else 0) ≤ t * cnt n (U n (fun i j => decide (0 < M i j)) I) := by
    unfold cnt
    rw [← sumN_mul]
    refine sumN_le fun j hj => ?_
    cases hU : U n (fun i j => decide (0 < M i j)) I j with
    | true =>
      simp only [if_true, Int.mul_one]
      rw [← b.col j hj]
      exact sumN_le fun i hi => by
        have := b.ge i j hi hj
        cases I i <;> simp <;> omega
    | false =>
      have : sumN n (fun i => if I i then M i j else 0) = 0 := by
        rw [sumN_congr (h := fun _ => 0) fun i hi => ?_, sumN_zero]
        cases hI : I i with
        | false => rfl
        | true =>
          have h3 : ¬ 0 < M i j := fun h => by
            have := (U_iff (A := fun i j => decide (0 < M i j))).mpr ⟨i, hi, hI, decide_eq_true h⟩
            rw [hU] at this; cases this
          have := b.ge i j hi hj
          simp; omega
      rw [this]; simp
  rw [← sumN_swap, h1] at h2
  exact Int.le_of_mul_le_mul_left h2 ht
theorem Bal.perm {n : Nat} {t : Int} {M : Nat → Nat → Int} (b : Bal n t M) (ht : 0 < t) : ∃ f : Nat → Nat, (∀ i, i < n → f i < n ∧ 0 < M i (f i)) ∧ ∀ i j, i < n → j < n → f i = f j → i = j := by
  obtain ⟨f, f1, f2⟩ := hall_perm n (sumN n fun i => cnt n fun j => decide (0 < M i j)).toNat _ (Int.self_le_toNat _) (b.hall ht)
  exact ⟨f, fun i hi => ⟨(f1 i hi).1, of_decide_eq_true (f1 i hi).2⟩, f2⟩
end VL

set_option Elab.async false
set_option linter.all false
set_option autoImplicit false
set_option maxRecDepth 100000
set_option maxHeartbeats 4000000
namespace VL
open PySem PySem.Spec L2
open PyProof.Rows hiding St
def top (i : Nat) : Stmt := PySem.Challenge.pw_polywork_k52_whole_parts_of_squares.main.body.getD i (.Pass ⟨0, 0, 0, 0⟩)
structure Ev where
  cInvalidMatrix : Addr
  cTooMany : Addr
  cInvalidVector : Addr
  cPolyError : Addr
structure Txt (K : PySem.W.Frag) (mg : Str → Option Value) : Prop where
  z_abs : mg "abs" = none
  z_any : mg "any" = none
  z_bool : mg "bool" = none
  z_enumerate : mg "enumerate" = none
  z_int : mg "int" = none
  z_isinstance : mg "isinstance" = none
  z_len : mg "len" = none
  z_list : mg "list" = none
  z_min : mg "min" = none
  z_range : mg "range" = none
  z_set : mg "set" = none
  z_sorted : mg "sorted" = none
  z_str : mg "str" = none
  z_sum : mg "sum" = none
  z_tuple : mg "tuple" = none
abbrev s_law_spoil : Stmt := top 14
abbrev N_law_spoil : List Str := [("value" : Str), ("item" : Str)]
abbrev P_law_spoil : List Str := [("value" : Str)]
theorem sc_law_spoil : FnScope N_law_spoil P_law_spoil (defScope s_law_spoil) := ⟨rfl, rfl, rfl, by decide +kernel, rfl, by decide +kernel, by decide +kernel⟩
theorem ok_law_spoil {P : Program} {w : World} {K : PySem.W.Frag} {mg : Str → Option Value} {base : Heap} (z1 : mg "isinstance" = none) (z2 : mg "list" = none) (z3 : mg "tuple" = none) {f : Addr} {fd : FuncData} (F : Fun K "_law_spoil" "_law_spoil" s_law_spoil f fd) (hm : mg "_law_spoil" = some (.ref f)) (hb : Binds K fd P_law_spoil []) :
    ∀ j, FnOk P w K mg base (L2.CX P w) j f fd P_law_spoil (spSpoil j)
  | 0 => ⟨fun vs H Q E h => by obtain ⟨v, k, d, G, fp, rfl, _⟩ := h; rfl, fun A outer s H args us vs Q E _ _ _ _ h => by obtain ⟨v, k, d, G, fp, _, _, h, _⟩ := h; simp [spOk] at h⟩
  | j + 1 => by
    have ih := ok_law_spoil (P := P) (w := w) (base := base) z1 z2 z3 F hm hb j
    refine F.okX sc_law_spoil (fun vs H Q E h => by obtain ⟨v, k, d, G, fp, rfl, _⟩ := h; rfl) fun cdv A outer s H vs Q E hr h => ?_
    obtain ⟨v, k, d, G, fp, rfl, ow, ok, inc, nd, ns, q⟩ := h
    refine ⟨_, pss_cons (ps_if (pt_val (pe_callB (callR_or call_isi call_isiT) rfl z1 (by decide +kernel) (pa_cons (pe_var (i := 0) rfl (Or.inl rfl)) (pa_cons (pe_tup (pa_cons (pe_bltn (v := .ty "list") rfl z2 (by decide +kernel) rfl) (pa_cons (pe_bltn (v := .ty "tuple") rfl z3 (by decide +kernel) rfl) pa_nil))) pa_nil))))
        (pss_one (ps_for vpasses rfl (pi_or (pi_list (pe_var (i := 0) rfl (Or.inl rfl))) (pi_tup (pe_var (i := 0) rfl (Or.inl rfl)))) (pg_name (i := 1) sc_law_spoil.nd rfl (Or.inl rfl))
          (pss_one (ps_expr (pe_callS ih hr rfl hm F.kp hb (E := WE (fun cls d _ H => E cls d H)) (fun σ => passAt vtakes σ) (pa_cons (pe_var (i := 1) rfl (Or.inl rfl)) pa_nil))))))
        pss_nil)
      (pss_one (ps_if (pt_val (pe_callB (callR_or call_isi call_isiT) rfl z1 (by decide +kernel) (pa_cons (pe_var (i := 0) rfl (Or.inl rfl)) (pa_cons (pe_bltn (v := .ty "list") rfl z2 (by decide +kernel) rfl) pa_nil))))
        (pss_one (ps_expr (pe_bm PySem.F.plainAttrs_list PySem.F.slot_list_append PySem.F.type_list_append mt_append (pe_var (i := 0) rfl (Or.inl rfl)) (pa_cons pe_int pa_nil))))
        pss_nil)), ?_⟩
    exact spoil_read ow ok inc nd ns q

abbrev s_law_deck : Stmt := top 11
abbrev N_law_deck : List Str := [("script" : Str), ("cells" : Str), ("each" : Str), ("deck" : Str), ("seed" : Str), ("k" : Str), ("cell" : Str), ("rest" : Str), ("at" : Str)]
abbrev P_law_deck : List Str := [("script" : Str), ("cells" : Str), ("each" : Str)]
theorem sc_law_deck : FnScope N_law_deck P_law_deck (defScope s_law_deck) := ⟨rfl, rfl, rfl, by decide +kernel, rfl, by decide +kernel, by decide +kernel⟩
noncomputable def g_law_deck (K : PySem.W.Frag) (ev : Ev) : Sl → R Out :=
  (gThen (gSet 3 (gLst gNil))
  (gThen (gSet 4 (gV (gOp dAdd (gC (.int (7))) (gLenKl K 0))))
  (gThen (gFor (gIt dRange1 (gCons (gVar 1) gNil)) (gaName 5)
  (gThen (gSet 6 (gV (gC (.int (0)))))
  (gThen (gIfS (gBool (gOp dLt (gVar 5) (gLenKl K 0)))
  (gSet 6 (gV (gIxKl K 0 (gVar 5))))
  gNext)
  (gThen (gSet 7 (gV (gApp dAbs (gCons (gVar 6) gNil))))
  (gIfS (gBool (gOp dGe (gVar 7) (gOp dPow (gC (.int (10))) (gC (.int (30))))))
  (gFor (gIt dRange1 (gCons (gVar 2) gNil)) (gaName 8)
  (gThen (gDrop (gV (gApd 3 (gV (gOp dMod (gApp dInt (gCons (gVar 7) gNil)) (gC (.int (1000003))))))))
  (gSet 7 (gV (gOp dDiv (gVar 7) (gC (.int (1000003))))))))
  (gThen (gSet 4 (gV (gOp dMod (gApp dInt (gCons (gOp dAdd (gOp dAdd (gOp dAdd (gOp dMul (gVar 4) (gC (.int (48271)))) (gOp dMul (gC (.int (2))) (gVar 7))) (gApp dInt (gCons (gOp dLt (gVar 6) (gC (.int (0)))) gNil))) (gVar 5)) gNil)) (gC (.int (2147483647))))))
  (gFor (gIt dRange1 (gCons (gVar 2) gNil)) (gaName 8)
  (gThen (gSet 4 (gV (gOp dMod (gApp dInt (gCons (gOp dAdd (gOp dAdd (gOp dMul (gVar 4) (gC (.int (69621)))) (gVar 8)) (gC (.int (1)))) gNil)) (gC (.int (2147483629))))))
  (gDrop (gV (gApd 3 (gV (gOp dMod (gApp dInt (gCons (gOp dDiv (gVar 4) (gC (.int (5)))) gNil)) (gC (.int (1000003))))))))))))))))
  (gThen (gDrop (gV (gRev 3)))
  (gRet (gMov 3))))))
noncomputable def f_law_deck (K : PySem.W.Frag) (ev : Ev) : Sl → R Vl := fnSem 3 6 (g_law_deck K ev)
theorem b_law_deck {P : Program} {w : World} {K : PySem.W.Frag} {mg : Str → Option Value} {base : Heap} {ev : Ev} (T : Txt K mg) {f : Addr} (cdv : Value) (A : Around) (outer : List Env) (s : Shared) (H : Hp) (E : XK) (hr : Room 1 (A.deeper (envOfC "_law_deck" (defScope s_law_deck) s.heap.objs.size f cdv))) :
    VSs (cxOf (L2.CX P w) P w K mg base N_law_deck "_law_deck" (defScope s_law_deck) f cdv A outer s H E) (fun cls d _ H => E cls d H) (defBody s_law_deck) (g_law_deck K ev) := by
  have hu : (cxOf (L2.CX P w) P w K mg base N_law_deck "_law_deck" (defScope s_law_deck) f cdv A outer s H E).A.units + 64 < cLine := by
    have := hr.un
    show (A.deeper (envOfC "_law_deck" (defScope s_law_deck) s.heap.objs.size f cdv)).units + 64 < cLine
    omega
  unfold g_law_deck
  exact (vss_cons (vs_set 3 (ve_lst va_nil) sc_law_deck.nd)
  (vss_cons (vs_set 4 (VD.v (vd_op op_add opd_I0 vd_int (vd_lenKl 0 T.z_len))) sc_law_deck.nd)
  (vss_cons (vs_for vpasses rfl (vi_range1 false (va_cons (vd_var 1) va_nil) T.z_range) (vg_name 5 sc_law_deck.nd)
  (vss_cons (vs_set 6 (VD.v vd_int) sc_law_deck.nd)
  (vss_cons (vs_if (vt_cmp op_lt opd_B (nomark _) (vd_var 5) (vd_lenKl 0 T.z_len))
  (vss_one (vs_set 6 (VD.v (vd_ixKl 0 (vd_var 5))) sc_law_deck.nd))
  vss_nil)
  (vss_cons (vs_set 7 (VD.v (vd_callB call_abs cd_abs (va_cons (vd_var 6) va_nil) (hm := T.z_abs) (hv := by decide +kernel))) sc_law_deck.nd)
  (vss_one (vs_if (vt_cmp op_ge opd_B (nomark _) (vd_var 7) (vd_op op_pow opd_pow vd_int vd_int))
  (vss_one (vs_for vpasses rfl (vi_range1 false (va_cons (vd_var 2) va_nil) T.z_range) (vg_name 8 sc_law_deck.nd)
  (vss_cons (vs_expr (VD.v (vd_append 3 (VD.v (vd_op op_mod opd_mod (vd_callTy call_int1 cd_int (va_cons (vd_var 7) va_nil) (hm := T.z_int) (hv := by decide +kernel)) vd_int)))))
  (vss_one (vs_set 7 (VD.v (vd_op op_fdiv opd_div (vd_var 7) vd_int)) sc_law_deck.nd)))))
  (vss_cons (vs_set 4 (VD.v (vd_op op_mod opd_mod (vd_callTy call_int1 cd_int (va_cons (vd_op op_add opd_I0 (vd_op op_add opd_I0 (vd_op op_add opd_I0 (vd_op op_mul opd_mul (vd_var 4) vd_int) (vd_op op_mul opd_mul vd_int (vd_var 7))) (vd_callTy call_int1 cd_int (va_cons (vd_cmp op_lt opd_B (nomark _) (vd_var 6) vd_int) va_nil) (hm := T.z_int) (hv := by decide +kernel))) (vd_var 5)) va_nil) (hm := T.z_int) (hv := by decide +kernel)) vd_int)) sc_law_deck.nd)
  (vss_one (vs_for vpasses rfl (vi_range1 false (va_cons (vd_var 2) va_nil) T.z_range) (vg_name 8 sc_law_deck.nd)
  (vss_cons (vs_set 4 (VD.v (vd_op op_mod opd_mod (vd_callTy call_int1 cd_int (va_cons (vd_op op_add opd_I0 (vd_op op_add opd_I0 (vd_op op_mul opd_mul (vd_var 4) vd_int) (vd_var 8)) vd_int) va_nil) (hm := T.z_int) (hv := by decide +kernel)) vd_int)) sc_law_deck.nd)
  (vss_one (vs_expr (VD.v (vd_append 3 (VD.v (vd_op op_mod opd_mod (vd_callTy call_int1 cd_int (va_cons (vd_op op_fdiv opd_div (vd_var 4) vd_int) va_nil) (hm := T.z_int) (hv := by decide +kernel)) vd_int))))))))))))))))
  (vss_cons (vs_expr (VD.v (vd_reverse 3)))
  (vss_one (vs_ret (ve_mov 3)))))))
abbrev s_law_is_parts : Stmt := top 18
abbrev N_law_is_parts : List Str := [("rows" : Str), ("parts" : Str), ("size" : Str), ("total" : Str), ("chosen" : Str), ("number" : Str), ("at" : Str), ("row" : Str)]
abbrev P_law_is_parts : List Str := [("rows" : Str), ("parts" : Str)]
theorem sc_law_is_parts : FnScope N_law_is_parts P_law_is_parts (defScope s_law_is_parts) := ⟨rfl, rfl, rfl, by decide +kernel, rfl, by decide +kernel, by decide +kernel⟩
noncomputable def g_law_is_parts (K : PySem.W.Frag) (ev : Ev) : Sl → R Out :=
  (gThen (gSet 2 (gV (gApp1 dLen (gV (gVar 0)))))
  (gThen (gSet 3 (gLcO 1 [(7 : Nat)] (gIt dRange1 (gCons (gVar 2) gNil)) (gaName 7) gYes (gNew2 true dRep (gLst (gCons (gC (.int (0))) gNil)) (gV (gVar 2)))))
  (gThen (gFor (gSeq false (gV (gVar 1))) (gaTup 2 (gaCons (gaName 4) (gaCons (gaName 5) gaNil)))
  (gThen (gIfS (gOr (gBool (gOpV true (dEq true) (gNew1 dSorted (gV (gVar 4))) (gLRange (gVar 2)))) (gBool (gOp dLt (gVar 5) (gC (.int (1))))))
  (gRet (gV (gC (.bl false))))
  gNext)
  (gFor (gIt dRange1 (gCons (gVar 2) gNil)) (gaName 6)
  (gSetPl (gV (gOp dAdd (gD (gIx true (gIxN 3 (gVar 6)) (gD (gIxN 4 (gVar 6))))) (gVar 5))) (plIx (plVar 3) (gVar 6)) (gD (gIxN 4 (gVar 6)))))))
  (gRet (gV (gAndV (gOpV true (dEq false) (gBor 3) (gV (gVar 0))) (gOpV true (dEq false) (gV (gLenSet (gLc true [(4 : Nat), (5 : Nat)] (gSeq true (gV (gVar 1))) (gaTup 2 (gaCons (gaName 4) (gaCons (gaName 5) gaNil))) gYes (gVar 4)))) (gV (gApp1 dLen (gV (gVar 1)))))))))))
noncomputable def f_law_is_parts (K : PySem.W.Frag) (ev : Ev) : Sl → R Vl := fnSem 2 6 (g_law_is_parts K ev)
theorem b_law_is_parts {P : Program} {w : World} {K : PySem.W.Frag} {mg : Str → Option Value} {base : Heap} {ev : Ev} (T : Txt K mg) {f : Addr} (cdv : Value) (A : Around) (outer : List Env) (s : Shared) (H : Hp) (E : XK) (hr : Room 1 (A.deeper (envOfC "_law_is_parts" (defScope s_law_is_parts) s.heap.objs.size f cdv))) :
    VSs (cxOf (L2.CX P w) P w K mg base N_law_is_parts "_law_is_parts" (defScope s_law_is_parts) f cdv A outer s H E) (fun cls d _ H => E cls d H) (defBody s_law_is_parts) (g_law_is_parts K ev) := by
  have hu : (cxOf (L2.CX P w) P w K mg base N_law_is_parts "_law_is_parts" (defScope s_law_is_parts) f cdv A outer s H E).A.units + 64 < cLine := by
    have := hr.un
    show (A.deeper (envOfC "_law_is_parts" (defScope s_law_is_parts) s.heap.objs.size f cdv)).units + 64 < cLine
    omega
  unfold g_law_is_parts
  exact (vss_cons (vs_set 2 (VD.v (vd_callB1 call_len cv_len (VD.v (vd_var 0)) (hm := T.z_len) (hv := by decide +kernel))) sc_law_is_parts.nd)
  (vss_cons (vs_setLcO (m := 1) 3 (own := [(("row" : Str), 7)]) rfl sc_law_is_parts.nd (vi_range1 true (va_cons (vd_var 2) va_nil) T.z_range) (blkOk_by (by rfl)) (fun _ _ _ _ _ => (vg_name 7 sc_law_is_parts.nd)) (fun _ _ _ _ _ => vts_nil) (fun _ _ _ _ _ => (ve_op2 op_rep opn_rep (ve_lst (va_cons vd_int va_nil)) (VD.v (vd_var 2)))) (by rfl))
  (vss_cons (vs_for vpasses rfl (vi_seq false (VD.v (vd_var 1))) (vg_tup rfl (vgs_cons (vg_name 4 sc_law_is_parts.nd) (vgs_cons (vg_name 5 sc_law_is_parts.nd) vgs_nil)))
  (vss_cons (vs_if (VW.vt (vw_or (vt_cmpV (op_neP hu) opv_eq (nomark _) (ve_newB1 (cr_sortedE hu) cn_sorted (VD.v (vd_var 4)) (hm := T.z_sorted) (hv := by decide +kernel)) (ve_lrange (vd_var 2) rfl T.z_range T.z_list)) (vw_or1 (vt_cmp op_lt opd_B (nomark _) (vd_var 5) vd_int))))
  (vss_one (vs_ret (VD.v vd_bl)))
  vss_nil)
  (vss_one (vs_for vpasses rfl (vi_range1 false (va_cons (vd_var 2) va_nil) T.z_range) (vg_name 6 sc_law_is_parts.nd)
  (vss_one (vs_setPl (VD.v (vd_op op_add opd_I0 (VE.d (ve_ix (ve_ixN 3 (vd_var 6)) (VE.d (ve_ixN 4 (vd_var 6))))) (vd_var 5))) (vpl_ix (vpl_var 3) (vd_var 6)) (VE.d (ve_ixN 4 (vd_var 6)))))))))
  (vss_one (vs_ret (VD.v (vd_and (vd_cmpV (op_eqP hu) opv_eq (nomark _) (ve_bor 3) (VD.v (vd_var 0))) (vd_one (vd_cmpV (op_eqP hu) opv_eq (nomark _) (VD.v (vd_lenSet (ve_lc (own := [(("chosen" : Str), 4), (("number" : Str), 5)]) (pu := true) rfl sc_law_is_parts.nd (vi_seq true (VD.v (vd_var 1))) (blkOk_by (by rfl)) (fun _ _ _ _ _ => (vg_tup rfl (vgs_cons (vg_name 4 sc_law_is_parts.nd) (vgs_cons (vg_name 5 sc_law_is_parts.nd) vgs_nil)))) (fun _ _ _ _ _ => vts_nil) (fun _ _ _ _ _ => (vd_var 4)) (by rfl) rfl (by decide)) rfl hu (hm := T.z_len) (hm2 := T.z_set))) (VD.v (vd_callB1 call_len cv_len (VD.v (vd_var 1)) (hm := T.z_len) (hv := by decide +kernel))))))))))))
abbrev s_law_take : Stmt := top 12
abbrev N_law_take : List Str := [("deck" : Str), ("many" : Str)]
abbrev P_law_take : List Str := [("deck" : Str), ("many" : Str)]
theorem sc_law_take : FnScope N_law_take P_law_take (defScope s_law_take) := ⟨rfl, rfl, rfl, by decide +kernel, rfl, by decide +kernel, by decide +kernel⟩
noncomputable def g_law_take (K : PySem.W.Frag) (ev : Ev) : Sl → R Out :=
  (gThen (gIfS (gBool (gOpV true (dEq false) (gV (gApp1 dLen (gBor 0))) (gV (gC (.int (0))))))
  (gRet (gV (gC (.int (0)))))
  gNext)
  (gRet (gV (gOp dMod (gApp dInt (gCons (gD (gPop 0)) gNil)) (gVar 1)))))
noncomputable def f_law_take (K : PySem.W.Frag) (ev : Ev) : Sl → R Vl := fnSem 2 0 (g_law_take K ev)
theorem b_law_take {P : Program} {w : World} {K : PySem.W.Frag} {mg : Str → Option Value} {base : Heap} {ev : Ev} (T : Txt K mg) {f : Addr} (cdv : Value) (A : Around) (outer : List Env) (s : Shared) (H : Hp) (E : XK) (hr : Room 1 (A.deeper (envOfC "_law_take" (defScope s_law_take) s.heap.objs.size f cdv))) :
    VSs (cxOf (L2.CX P w) P w K mg base N_law_take "_law_take" (defScope s_law_take) f cdv A outer s H E) (fun cls d _ H => E cls d H) (defBody s_law_take) (g_law_take K ev) := by
  have hu : (cxOf (L2.CX P w) P w K mg base N_law_take "_law_take" (defScope s_law_take) f cdv A outer s H E).A.units + 64 < cLine := by
    have := hr.un
    show (A.deeper (envOfC "_law_take" (defScope s_law_take) s.heap.objs.size f cdv)).units + 64 < cLine
    omega
  unfold g_law_take
  exact (vss_cons (vs_if (vt_cmpV (op_eqP hu) opv_eq (nomark _) (VD.v (vd_callB1 call_len cv_len (ve_bor 0) (hm := T.z_len) (hv := by decide +kernel))) (VD.v vd_int))
  (vss_one (vs_ret (VD.v vd_int)))
  vss_nil)
  (vss_one (vs_ret (VD.v (vd_op op_mod opd_mod (vd_callTy call_int1 cd_int (va_cons (VE.d (ve_pop 0)) va_nil) (hm := T.z_int) (hv := by decide +kernel)) (vd_var 1))))))
abbrev s_law_order : Stmt := top 16
abbrev N_law_order : List Str := [("deck" : Str), ("size" : Str), ("left" : Str), ("found" : Str), ("at" : Str)]
abbrev P_law_order : List Str := [("deck" : Str), ("size" : Str)]
theorem sc_law_order : FnScope N_law_order P_law_order (defScope s_law_order) := ⟨rfl, rfl, rfl, by decide +kernel, rfl, by decide +kernel, by decide +kernel⟩
noncomputable def g_law_order (K : PySem.W.Frag) (ev : Ev) : Sl → R Out :=
  (gThen (gSet 2 (gLRange (gVar 1)))
  (gThen (gSet 3 (gLst gNil))
  (gThen (gFor (gIt dRange1 (gCons (gVar 1) gNil)) (gaName 4)
  (gDrop (gV (gApd 3 (gPopAt 2 (gD (gCall (f_law_take K ev) (gArIo 0 (gArV (gApp1 dLen (gBor 2)) gArN)))))))))
  (gRet (gMov 3)))))
noncomputable def f_law_order (K : PySem.W.Frag) (ev : Ev) : Sl → R Vl := fnSem 2 3 (g_law_order K ev)
theorem b_law_order {P : Program} {w : World} {K : PySem.W.Frag} {mg : Str → Option Value} {base : Heap} {ev : Ev} (T : Txt K mg) (C_law_take : Cal P w K mg base 2 "_law_take" 2 (f_law_take K ev)) {f : Addr} (cdv : Value) (A : Around) (outer : List Env) (s : Shared) (H : Hp) (E : XK) (hr : Room 3 (A.deeper (envOfC "_law_order" (defScope s_law_order) s.heap.objs.size f cdv))) :
    VSs (cxOf (L2.CX P w) P w K mg base N_law_order "_law_order" (defScope s_law_order) f cdv A outer s H E) (fun cls d _ H => E cls d H) (defBody s_law_order) (g_law_order K ev) := by
  have hu : (cxOf (L2.CX P w) P w K mg base N_law_order "_law_order" (defScope s_law_order) f cdv A outer s H E).A.units + 64 < cLine := by
    have := hr.un
    show (A.deeper (envOfC "_law_order" (defScope s_law_order) s.heap.objs.size f cdv)).units + 64 < cLine
    omega
  unfold g_law_order
  exact (vss_cons (vs_set 2 (ve_lrange (vd_var 1) rfl T.z_range T.z_list) sc_law_order.nd)
  (vss_cons (vs_set 3 (ve_lst va_nil) sc_law_order.nd)
  (vss_cons (vs_for vpasses rfl (vi_range1 false (va_cons (vd_var 1) va_nil) T.z_range) (vg_name 4 sc_law_order.nd)
  (vss_one (vs_expr (VD.v (vd_append 3 (ve_popAt 2 (VE.d (ve_callC C_law_take vtakes hr (by decide) (var_io 0 (var_v (vd_callB1 call_len cv_len (ve_bor 2) (hm := T.z_len) (hv := by decide +kernel)) var_nil)) (arIo_len (arV_len arN_len))))))))))
  (vss_one (vs_ret (ve_mov 3))))))
abbrev s_law_put : Stmt := top 15
abbrev N_law_put : List Str := [("found" : Str), ("key" : Str), ("number" : Str)]
abbrev P_law_put : List Str := [("found" : Str), ("key" : Str), ("number" : Str)]
theorem sc_law_put : FnScope N_law_put P_law_put (defScope s_law_put) := ⟨rfl, rfl, rfl, by decide +kernel, rfl, by decide +kernel, by decide +kernel⟩
noncomputable def g_law_put (K : PySem.W.Frag) (ev : Ev) : Sl → R Out :=
  (gDPut 0 (gOp dAdd (gDGet2 (gBor 0) (gVar 1) (gC (.int (0)))) (gVar 2)) (gVar 1))
noncomputable def f_law_put (K : PySem.W.Frag) (ev : Ev) : Sl → R Vl := fnSem 3 0 (g_law_put K ev)
theorem b_law_put {P : Program} {w : World} {K : PySem.W.Frag} {mg : Str → Option Value} {base : Heap} {ev : Ev} (T : Txt K mg) {f : Addr} (cdv : Value) (A : Around) (outer : List Env) (s : Shared) (H : Hp) (E : XK) (hr : Room 1 (A.deeper (envOfC "_law_put" (defScope s_law_put) s.heap.objs.size f cdv))) :
    VSs (cxOf (L2.CX P w) P w K mg base N_law_put "_law_put" (defScope s_law_put) f cdv A outer s H E) (fun cls d _ H => E cls d H) (defBody s_law_put) (g_law_put K ev) := by
  have hu : (cxOf (L2.CX P w) P w K mg base N_law_put "_law_put" (defScope s_law_put) f cdv A outer s H E).A.units + 64 < cLine := by
    have := hr.un
    show (A.deeper (envOfC "_law_put" (defScope s_law_put) s.heap.objs.size f cdv)).units + 64 < cLine
    omega
  unfold g_law_put
  exact (vss_one (vs_dput 0 (vd_op op_add opd_I0 (vd_dGet2 (ve_bor 0) (vd_var 1) vd_int hu) (vd_var 2)) (vd_var 1) hu))
abbrev s_law_made : Stmt := top 19
abbrev N_law_made : List Str := [("deck" : Str), ("size" : Str), ("parts" : Str), ("turn" : Str), ("chosen" : Str)]
abbrev P_law_made : List Str := [("deck" : Str), ("size" : Str)]
theorem sc_law_made : FnScope N_law_made P_law_made (defScope s_law_made) := ⟨rfl, rfl, rfl, by decide +kernel, rfl, by decide +kernel, by decide +kernel⟩
noncomputable def g_law_made (K : PySem.W.Frag) (ev : Ev) : Sl → R Out :=
  (gThen (gSet 2 gDnewT)
  (gThen (gFor (gIt dRange1 (gCons (gD (gCall (f_law_take K ev) (gArIo 0 (gArV (gC (.int (5))) gArN)))) gNil)) (gaName 3)
  (gDrop (gCall (f_law_put K ev) (gArIo 2 (gArV (gTupOf (gCall (f_law_order K ev) (gArIo 0 (gArV (gVar 1) gArN)))) (gArV (gOp dAdd (gC (.int (1))) (gD (gCall (f_law_take K ev) (gArIo 0 (gArV (gC (.int (4))) gArN))))) gArN))))))
  (gFzS 2 (gRet (gLc true [(4 : Nat)] (gWalk keysOf (fpVar 2)) (gaName 4) gYes (gTup (gCons (gVar 4) (gCons (gDIx (gV (gVar 2)) (gVar 4)) gNil))))))))
noncomputable def f_law_made (K : PySem.W.Frag) (ev : Ev) : Sl → R Vl := fnSem 2 3 (g_law_made K ev)
theorem b_law_made {P : Program} {w : World} {K : PySem.W.Frag} {mg : Str → Option Value} {base : Heap} {ev : Ev} (T : Txt K mg) (C_law_order : Cal P w K mg base 4 "_law_order" 2 (f_law_order K ev)) (C_law_put : Cal P w K mg base 2 "_law_put" 3 (f_law_put K ev)) (C_law_take : Cal P w K mg base 2 "_law_take" 2 (f_law_take K ev)) {f : Addr} (cdv : Value) (A : Around) (outer : List Env) (s : Shared) (H : Hp) (E : XK) (hr : Room 5 (A.deeper (envOfC "_law_made" (defScope s_law_made) s.heap.objs.size f cdv))) :
    VSs (cxOf (L2.CX P w) P w K mg base N_law_made "_law_made" (defScope s_law_made) f cdv A outer s H E) (fun cls d _ H => E cls d H) (defBody s_law_made) (g_law_made K ev) := by
  have hu : (cxOf (L2.CX P w) P w K mg base N_law_made "_law_made" (defScope s_law_made) f cdv A outer s H E).A.units + 64 < cLine := by
    have := hr.un
    show (A.deeper (envOfC "_law_made" (defScope s_law_made) s.heap.objs.size f cdv)).units + 64 < cLine
    omega
  unfold g_law_made
  exact (vss_cons (vs_set 2 ve_dnewT sc_law_made.nd)
  (vss_cons (vs_for vpasses rfl (vi_range1 false (va_cons (VE.d (ve_callC C_law_take vtakes hr (by decide) (var_io 0 (var_v vd_int var_nil)) (arIo_len (arV_len arN_len)))) va_nil) T.z_range) (vg_name 3 sc_law_made.nd)
  (vss_one (vs_expr (ve_callC C_law_put vtakes hr (by decide) (var_io 2 (var_v (vd_tupOf (ve_callC C_law_order vtakes hr (by decide) (var_io 0 (var_v (vd_var 1) var_nil)) (arIo_len (arV_len arN_len))) (hm := T.z_tuple)) (var_v (vd_op op_add opd_I0 vd_int (VE.d (ve_callC C_law_take vtakes hr (by decide) (var_io 0 (var_v vd_int var_nil)) (arIo_len (arV_len arN_len))))) var_nil))) (arIo_len (arV_len (arV_len arN_len)))))))
  (vss_one (vs_fzS 2 (vs_ret (ve_lcW wk_keys (own := [(("chosen" : Str), 4)]) (pu := true) rfl sc_law_made.nd (vwk_keys (vfp_var 2)) (blkOk_by (by rfl)) (fun _ _ _ _ _ => (vg_name 4 sc_law_made.nd)) (fun _ _ _ _ _ => vts_nil) (fun _ _ _ _ _ => (vd_tup (va_cons (vd_var 4) (va_cons (vd_dIx (VD.v (vd_var 2)) (vd_var 4) hu) va_nil)))) (by rfl) rfl))))))
abbrev s_law_plain : Stmt := top 13
abbrev N_law_plain : List Str := [("value" : Str), ("item" : Str)]
abbrev P_law_plain : List Str := [("value" : Str)]
theorem sc_law_plain : FnScope N_law_plain P_law_plain (defScope s_law_plain) := ⟨rfl, rfl, rfl, by decide +kernel, rfl, by decide +kernel, by decide +kernel⟩
noncomputable def g_law_plain (K : PySem.W.Frag) (ev : Ev) (self : Sl → R Vl) : Sl → R Out :=
  (gThen (gIfS (gTru (gV (gApp dIsi (gCons (gVar 0) (gCons (gTup (gCons (gC (.ty "tuple")) (gCons (gC (.ty "list")) gNil))) gNil)))))
  (gRet (gNew2 true dCat (gLst (gCons (gApp dIsi (gCons (gVar 0) (gCons (gC (.ty "list")) gNil))) gNil)) (gLc true [(1 : Nat)] (gSeq true (gV (gVar 0))) (gaName 1) gYes (gD (gCallP (self) (gArV (gVar 1) gArN))))))
  gNext)
  (gThen (gIfS (gOr (gBool (gOpV true (dIsN false) (gV (gVar 0)) (gV (gC .non)))) (gTru (gV (gApp dIsi (gCons (gVar 0) (gCons (gC (.ty "bool")) gNil))))))
  (gRet (gIx true (gLst (gCons (gC (.str "None")) (gCons (gC (.str "False")) (gCons (gC (.str "True")) gNil)))) (gOp dAdd (gApp dInt (gCons (gOpV true (dIsN true) (gV (gVar 0)) (gV (gC .non))) gNil)) (gApp dInt (gCons (gOp (dIsBl false) (gVar 0) (gC (.bl true))) gNil)))))
  gNext)
  (gThen (gIfS (gTru (gV (gApp dIsi (gCons (gVar 0) (gCons (gTup (gCons (gC (.ty "int")) (gCons (gC (.ty "str")) gNil))) gNil)))))
  (gRet (gLst (gCons (gApp dIsi (gCons (gVar 0) (gCons (gC (.ty "str")) gNil))) (gCons (gVar 0) gNil))))
  gNext)
  (gRet (gV (gC (.str "another")))))))
noncomputable def f_law_plain (K : PySem.W.Frag) (ev : Ev) : Nat → Sl → R Vl
  | 0 => fun _ => .stuck
  | k + 1 => fnSem 1 1 (g_law_plain K ev (f_law_plain K ev k))
theorem b_law_plain {P : Program} {w : World} {K : PySem.W.Frag} {mg : Str → Option Value} {base : Heap} {ev : Ev} {self : Sl → R Vl} {j : Nat} (T : Txt K mg) (C_law_plain : Cal P w K mg base j "_law_plain" 1 self) {f : Addr} (cdv : Value) (A : Around) (outer : List Env) (s : Shared) (H : Hp) (E : XK) (hr : Room j (A.deeper (envOfC "_law_plain" (defScope s_law_plain) s.heap.objs.size f cdv))) :
    VSs (cxOf (L2.CX P w) P w K mg base N_law_plain "_law_plain" (defScope s_law_plain) f cdv A outer s H E) (fun cls d _ H => E cls d H) (defBody s_law_plain) (g_law_plain K ev self) := by
  have hu : (cxOf (L2.CX P w) P w K mg base N_law_plain "_law_plain" (defScope s_law_plain) f cdv A outer s H E).A.units + 64 < cLine := by
    have := hr.un
    show (A.deeper (envOfC "_law_plain" (defScope s_law_plain) s.heap.objs.size f cdv)).units + 64 < cLine
    omega
  unfold g_law_plain
  exact (vss_cons (vs_if (vt_tru (VD.v (vd_callB (callR_or call_isi call_isiT) cd_isi (va_cons (vd_var 0) (va_cons (vd_tup (va_cons (vd_type (hm := T.z_tuple) (hv := by decide +kernel)) (va_cons (vd_type (hm := T.z_list) (hv := by decide +kernel)) va_nil))) va_nil)) (hm := T.z_isinstance) (hv := by decide +kernel))))
  (vss_one (vs_ret (ve_op2 op_cat opn_cat (ve_lst (va_cons (vd_callB (callR_or call_isi call_isiT) cd_isi (va_cons (vd_var 0) (va_cons (vd_type (hm := T.z_list) (hv := by decide +kernel)) va_nil)) (hm := T.z_isinstance) (hv := by decide +kernel)) va_nil)) (ve_lc (own := [(("item" : Str), 1)]) (pu := true) rfl sc_law_plain.nd (vi_seq true (VD.v (vd_var 0))) (blkOk_by (by rfl)) (fun _ _ _ _ _ => (vg_name 1 sc_law_plain.nd)) (fun _ _ _ _ _ => vts_nil) (fun _ _ _ _ _ => (VE.d (ve_callP C_law_plain takes0 hr (by omega) (var_v (vd_var 1) var_nil) (arV_len arN_len)))) (by rfl) rfl (by decide)))))
  vss_nil)
  (vss_cons (vs_if (VW.vt (vw_or (vt_cmpV op_isN opv_isN (nomark _) (VD.v (vd_var 0)) (VD.v vd_non)) (vw_or1 (vt_tru (VD.v (vd_callB (callR_or call_isi call_isiT) cd_isi (va_cons (vd_var 0) (va_cons (vd_type (hm := T.z_bool) (hv := by decide +kernel)) va_nil)) (hm := T.z_isinstance) (hv := by decide +kernel)))))))
  (vss_one (vs_ret (ve_ix (ve_lst (va_cons vd_str (va_cons vd_str (va_cons vd_str va_nil)))) (vd_op op_add opd_I0 (vd_callTy call_int1 cd_int (va_cons (vd_cmpV op_notN opv_notN (nomark _) (VD.v (vd_var 0)) (VD.v vd_non)) va_nil) (hm := T.z_int) (hv := by decide +kernel)) (vd_callTy call_int1 cd_int (va_cons (vd_cmp op_isBl opd_isBl (nomark _) (vd_var 0) vd_bl) va_nil) (hm := T.z_int) (hv := by decide +kernel))))))
  vss_nil)
  (vss_cons (vs_if (vt_tru (VD.v (vd_callB (callR_or call_isi call_isiT) cd_isi (va_cons (vd_var 0) (va_cons (vd_tup (va_cons (vd_type (hm := T.z_int) (hv := by decide +kernel)) (va_cons (vd_type (hm := T.z_str) (hv := by decide +kernel)) va_nil))) va_nil)) (hm := T.z_isinstance) (hv := by decide +kernel))))
  (vss_one (vs_ret (ve_lst (va_cons (vd_callB (callR_or call_isi call_isiT) cd_isi (va_cons (vd_var 0) (va_cons (vd_type (hm := T.z_str) (hv := by decide +kernel)) va_nil)) (hm := T.z_isinstance) (hv := by decide +kernel)) (va_cons (vd_var 0) va_nil)))))
  vss_nil)
  (vss_one (vs_ret (VD.v vd_str))))))
abbrev s_check_square : Stmt := top 6
abbrev N_check_square : List Str := [("rows" : Str), ("sums" : Str), ("row" : Str), ("entry" : Str), ("at" : Str)]
abbrev P_check_square : List Str := [("rows" : Str)]
theorem sc_check_square : FnScope N_check_square P_check_square (defScope s_check_square) := ⟨rfl, rfl, rfl, by decide +kernel, rfl, by decide +kernel, by decide +kernel⟩
noncomputable def g_check_square (K : PySem.W.Frag) (ev : Ev) : Sl → R Out :=
  (gThen (gIfS (gTru (gV (gApp1 dAnyS (gLc true [(2 : Nat)] (gSeq true (gV (gVar 0))) (gaName 2) gYes (gOpV true (dEq true) (gV (gApp1 dLen (gV (gVar 2)))) (gV (gApp1 dLen (gV (gVar 0)))))))))
  (gRaise ev.cInvalidMatrix (gC (.str "square")))
  gNext)
  (gThen (gIfS (gTru (gV (gApp1 dAnyS (gLc2 [(2 : Nat), (3 : Nat)] [(3 : Nat)] (gSeq true (gV (gVar 0))) (gaName 2) gYes (gSeq false (gV (gVar 2))) (gaName 3) gYes (gOp dLt (gVar 3) (gC (.int (0))))))))
  (gRaise ev.cInvalidMatrix (gC (.str "entries")))
  gNext)
  (gThen (gSet 1 (gV (gD (gNew2 true dCat (gLc true [(2 : Nat)] (gSeq true (gV (gVar 0))) (gaName 2) gYes (gApp1 dSumS (gV (gVar 2)))) (gLc true [(4 : Nat)] (gIt dRange1 (gCons (gApp1 dLen (gV (gVar 0))) gNil)) (gaName 4) gYes (gApp1 dSumS (gLc true [(2 : Nat)] (gSeq true (gV (gVar 0))) (gaName 2) gYes (gD (gIxN 2 (gVar 4))))))))))
  (gThen (gIfS (gBool (gOp dGt (gLenSet (gV (gVar 1))) (gC (.int (1)))))
  (gRaise ev.cInvalidMatrix (gC (.str "sums")))
  gNext)
  (gRet (gV (gApp1 dSumS (gSl true (gV (gVar 1)) none (some (gC (.int (1))))))))))))
noncomputable def f_check_square (K : PySem.W.Frag) (ev : Ev) : Sl → R Vl := fnSem 1 4 (g_check_square K ev)
theorem b_check_square {P : Program} {w : World} {K : PySem.W.Frag} {mg : Str → Option Value} {base : Heap} {ev : Ev} (T : Txt K mg) {B_InvalidMatrix fI_InvalidMatrix : Addr} {fd_InvalidMatrix : FuncData} (E_InvalidMatrix : ErrTxt K mg "InvalidMatrix" ev.cInvalidMatrix B_InvalidMatrix fI_InvalidMatrix) (FI_InvalidMatrix : FnOk P w K mg base (L2.CX P w) 1 fI_InvalidMatrix fd_InvalidMatrix nmSW (spInit ev.cInvalidMatrix)) (bI_InvalidMatrix : Binds K fd_InvalidMatrix nmSW []) {f : Addr} (cdv : Value) (A : Around) (outer : List Env) (s : Shared) (H : Hp) (E : XK) (hr : Room 2 (A.deeper (envOfC "check_square" (defScope s_check_square) s.heap.objs.size f cdv))) :
    VSs (cxOf (L2.CX P w) P w K mg base N_check_square "check_square" (defScope s_check_square) f cdv A outer s H E) (fun cls d _ H => E cls d H) (defBody s_check_square) (g_check_square K ev) := by
  have hu : (cxOf (L2.CX P w) P w K mg base N_check_square "check_square" (defScope s_check_square) f cdv A outer s H E).A.units + 64 < cLine := by
    have := hr.un
    show (A.deeper (envOfC "check_square" (defScope s_check_square) s.heap.objs.size f cdv)).units + 64 < cLine
    omega
  unfold g_check_square
  exact (vss_cons (vs_if (vt_tru (VD.v (vd_callB1 (callR_or (cr_any rfl) (cr_anyI rfl)) cv_anyS (ve_lc (own := [(("row" : Str), 2)]) (pu := true) rfl sc_check_square.nd (vi_seq true (VD.v (vd_var 0))) (blkOk_by (by rfl)) (fun _ _ _ _ _ => (vg_name 2 sc_check_square.nd)) (fun _ _ _ _ _ => vts_nil) (fun _ _ _ _ _ => (vd_cmpV (op_neP hu) opv_eq (nomark _) (VD.v (vd_callB1 call_len cv_len (VD.v (vd_var 2)) (hm := T.z_len) (hv := by decide +kernel))) (VD.v (vd_callB1 call_len cv_len (VD.v (vd_var 0)) (hm := T.z_len) (hv := by decide +kernel))))) (by rfl) rfl (by decide)) (hm := T.z_any) (hv := by decide +kernel))))
  (vss_one (vs_raise vd_str E_InvalidMatrix FI_InvalidMatrix (hr.mono (by decide)) bI_InvalidMatrix rfl vtakes))
  vss_nil)
  (vss_cons (vs_if (vt_tru (VD.v (vd_callB1 (callR_or (cr_any rfl) (cr_anyI rfl)) cv_anyS (ve_lc2 (own := [(("row" : Str), 2), (("entry" : Str), 3)]) (vs1 := [(3 : Nat)]) rfl sc_check_square.nd (vi_seq true (VD.v (vd_var 0))) (blkOk_by (by rfl)) (fun _ _ _ _ _ => (vg_name 2 sc_check_square.nd)) (fun _ _ _ _ _ => vts_nil) (fun _ _ _ _ _ => (vi_seq false (VD.v (vd_var 2)))) (fun _ _ _ _ _ => (vg_name 3 sc_check_square.nd)) (fun _ _ _ _ _ => vts_nil) (fun _ _ _ _ _ => (vd_cmp op_lt opd_B (nomark _) (vd_var 3) vd_int)) (by rfl) (by rfl) (by rfl)) (hm := T.z_any) (hv := by decide +kernel))))
  (vss_one (vs_raise vd_str E_InvalidMatrix FI_InvalidMatrix (hr.mono (by decide)) bI_InvalidMatrix rfl vtakes))
  vss_nil)
  (vss_cons (vs_set 1 (VD.v (VE.d (ve_op2 op_cat opn_cat (ve_lc (own := [(("row" : Str), 2)]) (pu := true) rfl sc_check_square.nd (vi_seq true (VD.v (vd_var 0))) (blkOk_by (by rfl)) (fun _ _ _ _ _ => (vg_name 2 sc_check_square.nd)) (fun _ _ _ _ _ => vts_nil) (fun _ _ _ _ _ => (vd_callB1 (callR_or (cr_sum rfl) (cr_sumT rfl)) cv_sumS (VD.v (vd_var 2)) (hm := T.z_sum) (hv := by decide +kernel))) (by rfl) rfl (by decide)) (ve_lc (own := [(("at" : Str), 4)]) (pu := true) rfl sc_check_square.nd (vi_range1 true (va_cons (vd_callB1 call_len cv_len (VD.v (vd_var 0)) (hm := T.z_len) (hv := by decide +kernel)) va_nil) T.z_range) (blkOk_by (by rfl)) (fun _ _ _ _ _ => (vg_name 4 sc_check_square.nd)) (fun _ _ _ _ _ => vts_nil) (fun _ _ _ _ _ => (vd_callB1 (callR_or (cr_sum rfl) (cr_sumT rfl)) cv_sumS (ve_lc (own := [(("row" : Str), 2)]) (pu := true) rfl sc_check_square.nd (vi_seq true (VD.v (vd_var 0))) (blkOk_by (by rfl)) (fun _ _ _ _ _ => (vg_name 2 sc_check_square.nd)) (fun _ _ _ _ _ => vts_nil) (fun _ _ _ _ _ => (VE.d (ve_ixN 2 (vd_var 4)))) (by rfl) rfl (by decide)) (hm := T.z_sum) (hv := by decide +kernel))) (by rfl) rfl (by decide))))) sc_check_square.nd)
  (vss_cons (vs_if (vt_cmp op_gt opd_B (nomark _) (vd_lenSet (VD.v (vd_var 1)) rfl hu (hm := T.z_len) (hm2 := T.z_set)) vd_int)
  (vss_one (vs_raise vd_str E_InvalidMatrix FI_InvalidMatrix (hr.mono (by decide)) bI_InvalidMatrix rfl vtakes))
  vss_nil)
  (vss_one (vs_ret (VD.v (vd_callB1 (callR_or (cr_sum rfl) (cr_sumT rfl)) cv_sumS (ve_sl (q := true) (VD.v (vd_var 1)) True.intro vd_int) (hm := T.z_sum) (hv := by decide +kernel)))))))))
abbrev s_judge_parts : Stmt := top 9
abbrev N_judge_parts : List Str := [("rows" : Str), ("parts" : Str), ("size" : Str), ("work" : Str), ("chosen" : Str), ("number" : Str), ("at" : Str), ("place" : Str), ("row" : Str)]
abbrev P_judge_parts : List Str := [("rows" : Str), ("parts" : Str)]
theorem sc_judge_parts : FnScope N_judge_parts P_judge_parts (defScope s_judge_parts) := ⟨rfl, rfl, rfl, by decide +kernel, rfl, by decide +kernel, by decide +kernel⟩
noncomputable def g_judge_parts (K : PySem.W.Frag) (ev : Ev) : Sl → R Out :=
  (gThen (gDrop (gCallP (f_check_square K ev) (gArV (gVar 0) gArN)))
  (gThen (gSet 2 (gV (gApp1 dLen (gV (gVar 0)))))
  (gThen (gSet 3 (gLcO 1 [(8 : Nat)] (gSeq true (gV (gVar 0))) (gaName 8) gYes (gNew1 dList (gV (gVar 8)))))
  (gThen (gFor (gSeq false (gV (gVar 1))) (gaTup 2 (gaCons (gaName 4) (gaCons (gaName 5) gaNil)))
  (gThen (gIfS (gOr (gBool (gOpV true (dEq true) (gNew1 dSorted (gV (gVar 4))) (gLRange (gVar 2)))) (gBool (gOp dLt (gVar 5) (gC (.int (1))))))
  (gRet (gV (gC (.bl false))))
  gNext)
  (gFor (gEnumS false (gV (gVar 4))) (gaTup 2 (gaCons (gaName 6) (gaCons (gaName 7) gaNil)))
  (gAugPl dSub (plIx (plVar 3) (gVar 6)) (gVar 7) (gVar 5)))))
  (gThen (gIfS (gBool (gOpV true (dEq true) (gV (gLenSet (gLc true [(4 : Nat), (5 : Nat)] (gSeq true (gV (gVar 1))) (gaTup 2 (gaCons (gaName 4) (gaCons (gaName 5) gaNil))) gYes (gTupOf (gV (gVar 4)))))) (gV (gApp1 dLen (gV (gVar 1))))))
  (gRet (gV (gC (.bl false))))
  gNext)
  (gRet (gV (gNotV (gLend 3 (gApp1 dAnyS (gLc true [(8 : Nat)] (gSeq true (gV (gVar 3))) (gaName 8) gYes (gApp1 dAnyS (gV (gVar 8))))))))))))))
noncomputable def f_judge_parts (K : PySem.W.Frag) (ev : Ev) : Sl → R Vl := fnSem 2 7 (g_judge_parts K ev)
theorem b_judge_parts {P : Program} {w : World} {K : PySem.W.Frag} {mg : Str → Option Value} {base : Heap} {ev : Ev} (T : Txt K mg) (C_check_square : Cal P w K mg base 3 "check_square" 1 (f_check_square K ev)) {f : Addr} (cdv : Value) (A : Around) (outer : List Env) (s : Shared) (H : Hp) (E : XK) (hr : Room 4 (A.deeper (envOfC "judge_parts" (defScope s_judge_parts) s.heap.objs.size f cdv))) :
    VSs (cxOf (L2.CX P w) P w K mg base N_judge_parts "judge_parts" (defScope s_judge_parts) f cdv A outer s H E) (fun cls d _ H => E cls d H) (defBody s_judge_parts) (g_judge_parts K ev) := by
  have hu : (cxOf (L2.CX P w) P w K mg base N_judge_parts "judge_parts" (defScope s_judge_parts) f cdv A outer s H E).A.units + 64 < cLine := by
    have := hr.un
    show (A.deeper (envOfC "judge_parts" (defScope s_judge_parts) s.heap.objs.size f cdv)).units + 64 < cLine
    omega
  unfold g_judge_parts
  exact (vss_cons (vs_expr (ve_callP C_check_square vtakes hr (by decide) (var_v (vd_var 0) var_nil) (arV_len arN_len)))
  (vss_cons (vs_set 2 (VD.v (vd_callB1 call_len cv_len (VD.v (vd_var 0)) (hm := T.z_len) (hv := by decide +kernel))) sc_judge_parts.nd)
  (vss_cons (vs_setLcO (m := 1) 3 (own := [(("row" : Str), 8)]) rfl sc_judge_parts.nd (vi_seq true (VD.v (vd_var 0))) (blkOk_by (by rfl)) (fun _ _ _ _ _ => (vg_name 8 sc_judge_parts.nd)) (fun _ _ _ _ _ => vts_nil) (fun _ _ _ _ _ => (ve_newTy1 call_list_of cn_list (VD.v (vd_var 8)) (hm := T.z_list) (hv := by decide +kernel))) (by rfl))
  (vss_cons (vs_for vpasses rfl (vi_seq false (VD.v (vd_var 1))) (vg_tup rfl (vgs_cons (vg_name 4 sc_judge_parts.nd) (vgs_cons (vg_name 5 sc_judge_parts.nd) vgs_nil)))
  (vss_cons (vs_if (VW.vt (vw_or (vt_cmpV (op_neP hu) opv_eq (nomark _) (ve_newB1 (cr_sortedE hu) cn_sorted (VD.v (vd_var 4)) (hm := T.z_sorted) (hv := by decide +kernel)) (ve_lrange (vd_var 2) rfl T.z_range T.z_list)) (vw_or1 (vt_cmp op_lt opd_B (nomark _) (vd_var 5) vd_int))))
  (vss_one (vs_ret (VD.v vd_bl)))
  vss_nil)
  (vss_one (vs_for vpasses rfl (vi_enumS false (VD.v (vd_var 4)) T.z_enumerate) (vg_tup rfl (vgs_cons (vg_name 6 sc_judge_parts.nd) (vgs_cons (vg_name 7 sc_judge_parts.nd) vgs_nil)))
  (vss_one (vs_augPl ip_sub ipd_I (vpl_ix (vpl_var 3) (vd_var 6)) (vd_var 7) (vd_var 5)))))))
  (vss_cons (vs_if (vt_cmpV (op_neP hu) opv_eq (nomark _) (VD.v (vd_lenSet (ve_lc (own := [(("chosen" : Str), 4), (("number" : Str), 5)]) (pu := true) rfl sc_judge_parts.nd (vi_seq true (VD.v (vd_var 1))) (blkOk_by (by rfl)) (fun _ _ _ _ _ => (vg_tup rfl (vgs_cons (vg_name 4 sc_judge_parts.nd) (vgs_cons (vg_name 5 sc_judge_parts.nd) vgs_nil)))) (fun _ _ _ _ _ => vts_nil) (fun _ _ _ _ _ => (vd_tupOf (VD.v (vd_var 4)) (hm := T.z_tuple))) (by rfl) rfl (by decide)) rfl hu (hm := T.z_len) (hm2 := T.z_set))) (VD.v (vd_callB1 call_len cv_len (VD.v (vd_var 1)) (hm := T.z_len) (hv := by decide +kernel))))
  (vss_one (vs_ret (VD.v vd_bl)))
  vss_nil)
  (vss_one (vs_ret (VD.v (vd_not (vd_lend 3 (vd_callB1 (callR_or (cr_any rfl) (cr_anyI rfl)) cv_anyS (ve_lc (own := [(("row" : Str), 8)]) (pu := true) rfl sc_judge_parts.nd (vi_seq true (VD.v (vd_var 3))) (blkOk_by (by rfl)) (fun _ _ _ _ _ => (vg_name 8 sc_judge_parts.nd)) (fun _ _ _ _ _ => vts_nil) (fun _ _ _ _ _ => (vd_callB1 (callR_or (cr_any rfl) (cr_anyI rfl)) cv_anyS (VD.v (vd_var 8)) (hm := T.z_any) (hv := by decide +kernel))) (by rfl) rfl (by decide)) (hm := T.z_any) (hv := by decide +kernel))))))))))))
abbrev s_least_permutation : Stmt := top 7
abbrev N_least_permutation : List Str := [("rows" : Str), ("partial" : Str), ("row" : Str), ("longer" : Str), ("chosen" : Str), ("at" : Str), ("entry" : Str)]
abbrev P_least_permutation : List Str := [("rows" : Str)]
theorem sc_least_permutation : FnScope N_least_permutation P_least_permutation (defScope s_least_permutation) := ⟨rfl, rfl, rfl, by decide +kernel, rfl, by decide +kernel, by decide +kernel⟩
noncomputable def g_least_permutation (K : PySem.W.Frag) (ev : Ev) : Sl → R Out :=
  (gThen (gSet 1 (gV (gD (gLst (gCons (gTup gNil) gNil)))))
  (gThen (gFor (gSeq false (gV (gVar 0))) (gaName 2)
  (gThen (gSet 3 (gLst gNil))
  (gThen (gFor (gSeq false (gV (gVar 1))) (gaName 4)
  (gDrop (gV (gExtPl true (plVar 3) (gLc true [(5 : Nat), (6 : Nat)] (gEnumS true (gV (gVar 2))) (gaTup 2 (gaCons (gaName 5) (gaCons (gaName 6) gaNil))) (gAnd (gBool (gOp dGt (gVar 6) (gC (.int (0))))) (gBool (gOpV true (dIn true) (gV (gVar 5)) (gV (gVar 4))))) (gCatT (gVar 4) (gTup (gCons (gVar 5) gNil))))))))
  (gSet 1 (gV (gFrz 3))))))
  (gRet (gV (gBest dMinDef (gV (gVar 1)) (gC .non))))))
noncomputable def f_least_permutation (K : PySem.W.Frag) (ev : Ev) : Sl → R Vl := fnSem 1 6 (g_least_permutation K ev)
theorem b_least_permutation {P : Program} {w : World} {K : PySem.W.Frag} {mg : Str → Option Value} {base : Heap} {ev : Ev} (T : Txt K mg) {f : Addr} (cdv : Value) (A : Around) (outer : List Env) (s : Shared) (H : Hp) (E : XK) (hr : Room 1 (A.deeper (envOfC "least_permutation" (defScope s_least_permutation) s.heap.objs.size f cdv))) :
    VSs (cxOf (L2.CX P w) P w K mg base N_least_permutation "least_permutation" (defScope s_least_permutation) f cdv A outer s H E) (fun cls d _ H => E cls d H) (defBody s_least_permutation) (g_least_permutation K ev) := by
  have hu : (cxOf (L2.CX P w) P w K mg base N_least_permutation "least_permutation" (defScope s_least_permutation) f cdv A outer s H E).A.units + 64 < cLine := by
    have := hr.un
    show (A.deeper (envOfC "least_permutation" (defScope s_least_permutation) s.heap.objs.size f cdv)).units + 64 < cLine
    omega
  unfold g_least_permutation
  exact (vss_cons (vs_set 1 (VD.v (VE.d (ve_lst (va_cons (vd_tup va_nil) va_nil)))) sc_least_permutation.nd)
  (vss_cons (vs_for vpasses rfl (vi_seq false (VD.v (vd_var 0))) (vg_name 2 sc_least_permutation.nd)
  (vss_cons (vs_set 3 (ve_lst va_nil) sc_least_permutation.nd)
  (vss_cons (vs_for vpasses rfl (vi_seq false (VD.v (vd_var 1))) (vg_name 4 sc_least_permutation.nd)
  (vss_one (vs_expr (VD.v (vd_extPl (vpl_var 3) (ve_lc (own := [(("at" : Str), 5), (("entry" : Str), 6)]) (pu := true) rfl sc_least_permutation.nd (vi_enumS true (VD.v (vd_var 2)) T.z_enumerate) (blkOk_by (by rfl)) (fun _ _ _ _ _ => (vg_tup rfl (vgs_cons (vg_name 5 sc_least_permutation.nd) (vgs_cons (vg_name 6 sc_least_permutation.nd) vgs_nil)))) (fun _ _ _ _ _ => (vts_one (VW.vt (vw_and (vt_cmp op_gt opd_B (nomark _) (vd_var 6) vd_int) (vw_and1 (vt_cmpV (op_notInP hu) opv_in (by rfl) (VD.v (vd_var 5)) (VD.v (vd_var 4)))))))) (fun _ _ _ _ _ => (vd_catT (vd_var 4) (vd_tup (va_cons (vd_var 5) va_nil)))) (by rfl) rfl (by decide)))))))
  (vss_one (vs_set 1 (VD.v (vd_frz 3)) sc_least_permutation.nd)))))
  (vss_one (vs_ret (VD.v (vd_best (cr_minDef hu rfl) cvd_min (VD.v (vd_var 1)) vd_non (hm := T.z_min) (hv := by decide +kernel)))))))
abbrev s_parts_of_square : Stmt := top 8
abbrev N_parts_of_square : List Str := [("rows" : Str), ("total" : Str), ("work" : Str), ("found" : Str), ("chosen" : Str), ("number" : Str), ("at" : Str), ("place" : Str), ("row" : Str)]
abbrev P_parts_of_square : List Str := [("rows" : Str)]
theorem sc_parts_of_square : FnScope N_parts_of_square P_parts_of_square (defScope s_parts_of_square) := ⟨rfl, rfl, rfl, by decide +kernel, rfl, by decide +kernel, by decide +kernel⟩
noncomputable def g_parts_of_square (K : PySem.W.Frag) (ev : Ev) : Sl → R Out :=
  (gThen (gSet 1 (gV (gD (gCallP (f_check_square K ev) (gArV (gVar 0) gArN)))))
  (gThen (gIfS (gBool (gOp dGt (gApp1 dLen (gV (gVar 0))) (gC (.int (6)))))
  (gRaise ev.cTooMany (gC (.str "rows")))
  gNext)
  (gThen (gSet 2 (gLcO 1 [(8 : Nat)] (gSeq true (gV (gVar 0))) (gaName 8) gYes (gNew1 dList (gV (gVar 8)))))
  (gThen (gSet 3 (gLst gNil))
  (gThen (gWhile 4096 (gBool (gOp dGt (gVar 1) (gC (.int (0)))))
  (gThen (gSet 4 (gV (gLend 2 (gD (gCallP (f_least_permutation K ev) (gArV (gVar 2) gArN))))))
  (gThen (gSet 5 (gV (gLend 2 (gApp1 dMinL (gLc true [(6 : Nat), (7 : Nat)] (gEnumS true (gV (gVar 4))) (gaTup 2 (gaCons (gaName 6) (gaCons (gaName 7) gaNil))) gYes (gD (gIx true (gIxN 2 (gVar 6)) (gVar 7))))))))
  (gThen (gFor (gEnumS false (gV (gVar 4))) (gaTup 2 (gaCons (gaName 6) (gaCons (gaName 7) gaNil)))
  (gAugPl dSub (plIx (plVar 2) (gVar 6)) (gVar 7) (gVar 5)))
  (gThen (gAug 1 dSub (gVar 5))
  (gDrop (gV (gApd 3 (gV (gTup (gCons (gVar 4) (gCons (gVar 5) gNil))))))))))))
  (gRet (gMov 3)))))))
noncomputable def f_parts_of_square (K : PySem.W.Frag) (ev : Ev) : Sl → R Vl := fnSem 1 8 (g_parts_of_square K ev)
theorem b_parts_of_square {P : Program} {w : World} {K : PySem.W.Frag} {mg : Str → Option Value} {base : Heap} {ev : Ev} (T : Txt K mg) (C_check_square : Cal P w K mg base 3 "check_square" 1 (f_check_square K ev)) (C_least_permutation : Cal P w K mg base 2 "least_permutation" 1 (f_least_permutation K ev)) {B_TooMany fI_TooMany : Addr} {fd_TooMany : FuncData} (E_TooMany : ErrTxt K mg "TooMany" ev.cTooMany B_TooMany fI_TooMany) (FI_TooMany : FnOk P w K mg base (L2.CX P w) 1 fI_TooMany fd_TooMany nmSW (spInit ev.cTooMany)) (bI_TooMany : Binds K fd_TooMany nmSW []) {f : Addr} (cdv : Value) (A : Around) (outer : List Env) (s : Shared) (H : Hp) (E : XK) (hr : Room 4 (A.deeper (envOfC "parts_of_square" (defScope s_parts_of_square) s.heap.objs.size f cdv))) :
    VSs (cxOf (L2.CX P w) P w K mg base N_parts_of_square "parts_of_square" (defScope s_parts_of_square) f cdv A outer s H E) (fun cls d _ H => E cls d H) (defBody s_parts_of_square) (g_parts_of_square K ev) := by
  have hu : (cxOf (L2.CX P w) P w K mg base N_parts_of_square "parts_of_square" (defScope s_parts_of_square) f cdv A outer s H E).A.units + 64 < cLine := by
    have := hr.un
    show (A.deeper (envOfC "parts_of_square" (defScope s_parts_of_square) s.heap.objs.size f cdv)).units + 64 < cLine
    omega
  unfold g_parts_of_square
  exact (vss_cons (vs_set 1 (VD.v (VE.d (ve_callP C_check_square vtakes hr (by decide) (var_v (vd_var 0) var_nil) (arV_len arN_len)))) sc_parts_of_square.nd)
  (vss_cons (vs_if (vt_cmp op_gt opd_B (nomark _) (vd_callB1 call_len cv_len (VD.v (vd_var 0)) (hm := T.z_len) (hv := by decide +kernel)) vd_int)
  (vss_one (vs_raise vd_str E_TooMany FI_TooMany (hr.mono (by decide)) bI_TooMany rfl vtakes))
  vss_nil)
  (vss_cons (vs_set 2 (ve_lcO (m := 1) (own := [(("row" : Str), 8)]) rfl sc_parts_of_square.nd (vi_seq true (VD.v (vd_var 0))) (blkOk_by (by rfl)) (fun _ _ _ _ _ => (vg_name 8 sc_parts_of_square.nd)) (fun _ _ _ _ _ => vts_nil) (fun _ _ _ _ _ => (ve_newTy1 call_list_of cn_list (VD.v (vd_var 8)) (hm := T.z_list) (hv := by decide +kernel))) (by rfl)) sc_parts_of_square.nd)
  (vss_cons (vs_set 3 (ve_lst va_nil) sc_parts_of_square.nd)
  (vss_cons (vs_whileN 4096 vpasses (vt_cmp op_gt opd_B (nomark _) (vd_var 1) vd_int)
  (vss_cons (vs_set 4 (VD.v (vd_lend 2 (VE.d (ve_callP C_least_permutation vtakes hr (by decide) (var_v (vd_var 2) var_nil) (arV_len arN_len))))) sc_parts_of_square.nd)
  (vss_cons (vs_set 5 (VD.v (vd_lend 2 (vd_callB1 (cr_min rfl) cv_minL (ve_lc (own := [(("at" : Str), 6), (("place" : Str), 7)]) (pu := true) rfl sc_parts_of_square.nd (vi_enumS true (VD.v (vd_var 4)) T.z_enumerate) (blkOk_by (by rfl)) (fun _ _ _ _ _ => (vg_tup rfl (vgs_cons (vg_name 6 sc_parts_of_square.nd) (vgs_cons (vg_name 7 sc_parts_of_square.nd) vgs_nil)))) (fun _ _ _ _ _ => vts_nil) (fun _ _ _ _ _ => (VE.d (ve_ix (ve_ixN 2 (vd_var 6)) (vd_var 7)))) (by rfl) rfl (by decide)) (hm := T.z_min) (hv := by decide +kernel)))) sc_parts_of_square.nd)
  (vss_cons (vs_for vpasses rfl (vi_enumS false (VD.v (vd_var 4)) T.z_enumerate) (vg_tup rfl (vgs_cons (vg_name 6 sc_parts_of_square.nd) (vgs_cons (vg_name 7 sc_parts_of_square.nd) vgs_nil)))
  (vss_one (vs_augPl ip_sub ipd_I (vpl_ix (vpl_var 2) (vd_var 6)) (vd_var 7) (vd_var 5))))
  (vss_cons (vs_aug 1 ip_sub ipd_I (vd_var 5) sc_parts_of_square.nd)
  (vss_one (vs_expr (VD.v (vd_append 3 (VD.v (vd_tup (va_cons (vd_var 4) (va_cons (vd_var 5) va_nil)))))))))))))
  (vss_one (vs_ret (ve_mov 3))))))))
abbrev s_law_why : Stmt := top 17
abbrev N_law_why : List Str := [("ask" : Str), ("rows" : Str), ("parts" : Str), ("error" : Str)]
abbrev P_law_why : List Str := [("ask" : Str), ("rows" : Str), ("parts" : Str)]
theorem sc_law_why : FnScope N_law_why P_law_why (defScope s_law_why) := ⟨rfl, rfl, rfl, by decide +kernel, rfl, by decide +kernel, by decide +kernel⟩
noncomputable def g_law_why (K : PySem.W.Frag) (ev : Ev) : Sl → R Out :=
  (gThen (gTryL [(ev.cInvalidMatrix, fun a dd => (gThen (gIfS (gAnd (gTru (gV (gIsE a dd 3 true))) (gNot (gTru (gV (gIsE a dd 3 false)))))
  (gRet (gV (gTup (gCons (gC (.str "matrix")) (gCons (gExc a dd 3) gNil)))))
  gNext)
  (gThen (gIfS (gAnd (gTru (gV (gIsE a dd 3 false))) (gNot (gTru (gV (gIsE a dd 3 true)))))
  (gRet (gV (gTup (gCons (gC (.str "many")) (gCons (gExc a dd 3) gNil)))))
  gNext)
  (gRet (gV (gC (.str "another"))))))),
  (ev.cTooMany, fun a dd => (gThen (gIfS (gAnd (gTru (gV (gIsE a dd 3 false))) (gNot (gTru (gV (gIsE a dd 3 true)))))
  (gRet (gV (gTup (gCons (gC (.str "matrix")) (gCons (gExc a dd 3) gNil)))))
  gNext)
  (gThen (gIfS (gAnd (gTru (gV (gIsE a dd 3 true))) (gNot (gTru (gV (gIsE a dd 3 false)))))
  (gRet (gV (gTup (gCons (gC (.str "many")) (gCons (gExc a dd 3) gNil)))))
  gNext)
  (gRet (gV (gC (.str "another")))))))] 3 (gIfS (gBool (gOpV true (dEq false) (gV (gVar 0)) (gV (gC (.int (0))))))
  (gDrop (gCallP (f_parts_of_square K ev) (gArV (gVar 1) gArN)))
  (gDrop (gCallP (f_judge_parts K ev) (gArV (gVar 1) (gArV (gVar 2) gArN))))))
  (gRet (gV (gC .non))))
noncomputable def f_law_why (K : PySem.W.Frag) (ev : Ev) : Sl → R Vl := fnSem 3 1 (g_law_why K ev)
theorem b_law_why {P : Program} {w : World} {K : PySem.W.Frag} {mg : Str → Option Value} {base : Heap} {ev : Ev} (T : Txt K mg) (C_judge_parts : Cal P w K mg base 5 "judge_parts" 2 (f_judge_parts K ev)) (C_parts_of_square : Cal P w K mg base 5 "parts_of_square" 1 (f_parts_of_square K ev)) {B_InvalidMatrix fI_InvalidMatrix : Addr} {fd_InvalidMatrix : FuncData} (E_InvalidMatrix : ErrTxt K mg "InvalidMatrix" ev.cInvalidMatrix B_InvalidMatrix fI_InvalidMatrix) (FI_InvalidMatrix : FnOk P w K mg base (L2.CX P w) 1 fI_InvalidMatrix fd_InvalidMatrix nmSW (spInit ev.cInvalidMatrix)) (bI_InvalidMatrix : Binds K fd_InvalidMatrix nmSW []) {B_TooMany fI_TooMany : Addr} {fd_TooMany : FuncData} (E_TooMany : ErrTxt K mg "TooMany" ev.cTooMany B_TooMany fI_TooMany) (FI_TooMany : FnOk P w K mg base (L2.CX P w) 1 fI_TooMany fd_TooMany nmSW (spInit ev.cTooMany)) (bI_TooMany : Binds K fd_TooMany nmSW []) (I_InvalidMatrix : IsaTxt K ev.cInvalidMatrix) (I_TooMany : IsaTxt K ev.cTooMany) (M_InvalidMatrix : mg "InvalidMatrix" = some (.ref ev.cInvalidMatrix)) (M_InvalidVector : mg "InvalidVector" = some (.ref ev.cInvalidVector)) (M_PolyError : mg "PolyError" = some (.ref ev.cPolyError)) (M_TooMany : mg "TooMany" = some (.ref ev.cTooMany)) (ki_InvalidMatrix_InvalidMatrix : PySem.W.kitOne K (.ref ev.cInvalidMatrix) (.ref ev.cInvalidMatrix) = some true) (ki_InvalidMatrix_TooMany : PySem.W.kitOne K (.ref ev.cInvalidMatrix) (.ref ev.cTooMany) = some false) (ki_TooMany_InvalidMatrix : PySem.W.kitOne K (.ref ev.cTooMany) (.ref ev.cInvalidMatrix) = some false) (ki_TooMany_TooMany : PySem.W.kitOne K (.ref ev.cTooMany) (.ref ev.cTooMany) = some true) (kt_InvalidMatrix_InvalidVector_TooMany : PySem.W.kitAny K (.ref ev.cInvalidMatrix) [.ref ev.cInvalidVector, .ref ev.cTooMany] = some false) (kt_TooMany_InvalidVector_TooMany : PySem.W.kitAny K (.ref ev.cTooMany) [.ref ev.cInvalidVector, .ref ev.cTooMany] = some true) (te_InvalidMatrix_PolyError : PySem.W.exmOne K (.ref ev.cInvalidMatrix) (.ref ev.cPolyError) = some true) (te_TooMany_PolyError : PySem.W.exmOne K (.ref ev.cTooMany) (.ref ev.cPolyError) = some true) {f : Addr} (cdv : Value) (A : Around) (outer : List Env) (s : Shared) (H : Hp) (E : XK) (hr : Room 6 (A.deeper (envOfC "_law_why" (defScope s_law_why) s.heap.objs.size f cdv))) :
    VSs (cxOf (L2.CX P w) P w K mg base N_law_why "_law_why" (defScope s_law_why) f cdv A outer s H E) (fun cls d _ H => E cls d H) (defBody s_law_why) (g_law_why K ev) := by
  have hu : (cxOf (L2.CX P w) P w K mg base N_law_why "_law_why" (defScope s_law_why) f cdv A outer s H E).A.units + 64 < cLine := by
    have := hr.un
    show (A.deeper (envOfC "_law_why" (defScope s_law_why) s.heap.objs.size f cdv)).units + 64 < cLine
    omega
  unfold g_law_why
  exact (vss_cons (vs_tryL 3 rfl rfl sc_law_why.nd rfl rfl (names_mk rfl (by decide) M_PolyError) vtakes (al_cons te_InvalidMatrix_PolyError (al_cons te_TooMany_PolyError al_nil))
  (fun W1 pn xe tk1 ps1 => (vss_one (vs_if (vt_cmpV (op_eqP hu) opv_eq (nomark _) (VD.v (vd_var 0)) (VD.v vd_int))
  (vss_one (vs_expr (ve_callP C_parts_of_square tk1 hr (by decide) (var_v (vd_var 1) var_nil) (arV_len arN_len))))
  (vss_one (vs_expr (ve_callP C_judge_parts tk1 hr (by decide) (var_v (vd_var 1) (var_v (vd_var 2) var_nil)) (arV_len (arV_len arN_len))))))))
  (al_cons (fun a dd oe pn hz hfv => (vss_cons (vs_if (VW.vt (vw_and (vt_tru (VD.v (vd_isE1 3 E_InvalidMatrix I_InvalidMatrix hz hfv ki_InvalidMatrix_InvalidMatrix M_InvalidMatrix T.z_isinstance))) (vw_and1 (vt_not (vt_tru (VD.v (vd_isE2 3 E_InvalidMatrix I_InvalidMatrix hz hfv kt_InvalidMatrix_InvalidVector_TooMany M_InvalidVector M_TooMany T.z_isinstance)))))))
  (vss_one (vs_ret (VD.v (vd_tup (va_cons vd_str (va_cons (vd_what 3 E_InvalidMatrix hz hfv rfl) va_nil))))))
  vss_nil)
  (vss_cons (vs_if (VW.vt (vw_and (vt_tru (VD.v (vd_isE1 3 E_InvalidMatrix I_InvalidMatrix hz hfv ki_InvalidMatrix_TooMany M_TooMany T.z_isinstance))) (vw_and1 (vt_not (vt_tru (VD.v (vd_isE1 3 E_InvalidMatrix I_InvalidMatrix hz hfv ki_InvalidMatrix_InvalidMatrix M_InvalidMatrix T.z_isinstance)))))))
  (vss_one (vs_ret (VD.v (vd_tup (va_cons vd_str (va_cons (vd_what 3 E_InvalidMatrix hz hfv rfl) va_nil))))))
  vss_nil)
  (vss_one (vs_ret (VD.v vd_str)))))) (al_cons (fun a dd oe pn hz hfv => (vss_cons (vs_if (VW.vt (vw_and (vt_tru (VD.v (vd_isE1 3 E_TooMany I_TooMany hz hfv ki_TooMany_InvalidMatrix M_InvalidMatrix T.z_isinstance))) (vw_and1 (vt_not (vt_tru (VD.v (vd_isE2 3 E_TooMany I_TooMany hz hfv kt_TooMany_InvalidVector_TooMany M_InvalidVector M_TooMany T.z_isinstance)))))))
  (vss_one (vs_ret (VD.v (vd_tup (va_cons vd_str (va_cons (vd_what 3 E_TooMany hz hfv rfl) va_nil))))))
  vss_nil)
  (vss_cons (vs_if (VW.vt (vw_and (vt_tru (VD.v (vd_isE1 3 E_TooMany I_TooMany hz hfv ki_TooMany_TooMany M_TooMany T.z_isinstance))) (vw_and1 (vt_not (vt_tru (VD.v (vd_isE1 3 E_TooMany I_TooMany hz hfv ki_TooMany_InvalidMatrix M_InvalidMatrix T.z_isinstance)))))))
  (vss_one (vs_ret (VD.v (vd_tup (va_cons vd_str (va_cons (vd_what 3 E_TooMany hz hfv rfl) va_nil))))))
  vss_nil)
  (vss_one (vs_ret (VD.v vd_str)))))) al_nil)))
  (vss_one (vs_ret (VD.v vd_non))))
abbrev s_law : Stmt := top 20
abbrev N_law : List Str := [("script" : Str), ("deck" : Str), ("size" : Str), ("made" : Str), ("rows" : Str), ("chosen" : Str), ("number" : Str), ("handed" : Str), ("told" : Str), ("ask" : Str), ("answers" : Str), ("great" : Str), ("at" : Str), ("single" : Str), ("square" : Str), ("changed" : Str), ("bad" : Str), ("row" : Str), ("place" : Str)]
abbrev P_law : List Str := [("script" : Str)]
theorem sc_law : FnScope N_law P_law (defScope s_law) := ⟨rfl, rfl, rfl, by decide +kernel, rfl, by decide +kernel, by decide +kernel⟩
noncomputable def g_law (K : PySem.W.Frag) (ev : Ev) : Sl → R Out :=
  (gThen (gSet 1 (gCallP (f_law_deck K ev) (gArV (gVar 0) (gArV (gC (.int (60))) (gArV (gC (.int (14))) gArN)))))
  (gThen (gSet 2 (gV (gD (gCall (f_law_take K ev) (gArIo 1 (gArV (gC (.int (6))) gArN))))))
  (gThen (gSet 3 (gV (gD (gIfE (gBool (gOp dGt (gVar 2) (gC (.int (0))))) (gCall (f_law_made K ev) (gArIo 1 (gArV (gVar 2) gArN))) (gLst gNil)))))
  (gThen (gSet 4 (gLcO 1 [(17 : Nat)] (gIt dRange1 (gCons (gVar 2) gNil)) (gaName 17) gYes (gNew2 true dRep (gLst (gCons (gC (.int (0))) gNil)) (gV (gVar 2)))))
  (gThen (gFor (gSeq false (gV (gVar 3))) (gaTup 2 (gaCons (gaName 5) (gaCons (gaName 6) gaNil)))
  (gFor (gIt dRange1 (gCons (gVar 2) gNil)) (gaName 12)
  (gSetPl (gV (gOp dAdd (gD (gIx true (gIxN 4 (gVar 12)) (gD (gIxN 5 (gVar 12))))) (gVar 6))) (plIx (plVar 4) (gVar 12)) (gD (gIxN 5 (gVar 12))))))
  (gThen (gFzS 4 (gSet 7 (gV (gD (gLc true [(17 : Nat)] (gSeq true (gV (gVar 4))) (gaName 17) gYes (gTupOf (gV (gVar 17))))))))
  (gThen (gSpoil 6 (gCallP (f_parts_of_square K ev) (gArV (gVar 7) gArN)))
  (gThen (gSet 8 (gV (gD (gCallP (f_parts_of_square K ev) (gArV (gVar 7) gArN)))))
  (gThen (gIfS (gOr (gNot (gTru (gV (gApp dIsi (gCons (gVar 8) (gCons (gC (.ty "list")) gNil)))))) (gNot (gTru (gCallP (f_law_is_parts K ev) (gArV (gFrz 4) (gArV (gVar 8) gArN))))))
  (gRet (gV (gC (.bl false))))
  gNext)
  (gThen (gIfS (gBool (gOpV true (dEq true) (gCallP (f_law_plain K ev 6) (gArV (gVar 8) gArN)) (gCallP (f_law_plain K ev 6) (gArV (gD (gLc true [(5 : Nat), (6 : Nat)] (gSeq true (gV (gVar 8))) (gaTup 2 (gaCons (gaName 5) (gaCons (gaName 6) gaNil))) gYes (gTup (gCons (gTupOf (gV (gVar 5))) (gCons (gApp dInt (gCons (gVar 6) gNil)) gNil))))) gArN))))
  (gRet (gV (gC (.bl false))))
  gNext)
  (gThen (gIfS (gOr (gBool (gOp (dIsBl true) (gD (gCallP (f_judge_parts K ev) (gArV (gVar 7) (gArV (gVar 8) gArN)))) (gC (.bl true)))) (gBool (gOp (dIsBl true) (gD (gCallP (f_judge_parts K ev) (gArV (gFrz 4) (gArV (gVar 3) gArN)))) (gC (.bl true)))))
  (gRet (gV (gC (.bl false))))
  gNext)
  (gThen (gIfS (gBool (gOp dGt (gVar 2) (gC (.int (0)))))
  (gThen (gSet 13 (gV (gTupOf (gCall (f_law_order K ev) (gArIo 1 (gArV (gVar 2) gArN))))))
  (gThen (gSet 14 (gV (gD (gLc true [(12 : Nat)] (gIt dRange1 (gCons (gVar 2) gNil)) (gaName 12) gYes (gD (gLc true [(18 : Nat)] (gIt dRange1 (gCons (gVar 2) gNil)) (gaName 18) gYes (gApp dInt (gCons (gOpV true (dEq false) (gIxN 13 (gVar 12)) (gV (gVar 18))) gNil))))))))
  (gThen (gIfS (gBool (gOpV true (dEq true) (gCallP (f_parts_of_square K ev) (gArV (gVar 14) gArN)) (gLst (gCons (gTup (gCons (gVar 13) (gCons (gC (.int (1))) gNil))) gNil))))
  (gRet (gV (gC (.bl false))))
  gNext)
  (gThen (gSet 15 (gV (gD (gNew2 false dCat (gNew1 dList (gV (gVar 8))) (gLst (gCons (gTup (gCons (gVar 13) (gCons (gOp dSub (gD (gCall (f_law_take K ev) (gArIo 1 (gArV (gC (.int (3))) gArN)))) (gC (.int (1)))) gNil))) gNil))))))
  (gThen (gIfS (gAnd (gBool (gOp dGt (gApp1 dLen (gV (gVar 8))) (gC (.int (0))))) (gBool (gOpV true (dEq false) (gCall (f_law_take K ev) (gArIo 1 (gArV (gC (.int (2))) gArN))) (gV (gC (.int (0)))))))
  (gThen (gSet 12 (gV (gD (gCall (f_law_take K ev) (gArIo 1 (gArV (gApp1 dLen (gV (gVar 8))) gArN))))))
  (gSet 15 (gV (gD (gNew2 true dCat (gNew2 false dCat (gSl true (gV (gVar 8)) none (some (gVar 12))) (gLst (gCons (gTup (gCons (gD (gIx true (gIxN 8 (gVar 12)) (gC (.int (0))))) (gCons (gOp dSub (gOp dAdd (gD (gIx true (gIxN 8 (gVar 12)) (gC (.int (1))))) (gD (gCall (f_law_take K ev) (gArIo 1 (gArV (gC (.int (3))) gArN))))) (gC (.int (1)))) gNil))) gNil))) (gSl true (gV (gVar 8)) (some (gOp dAdd (gVar 12) (gC (.int (1))))) none))))))
  gNext)
  (gThen (gIfS (gBool (gOpV false (dEq true) (gCallP (f_law_plain K ev 6) (gArV (gD (gCallP (f_judge_parts K ev) (gArV (gFrz 4) (gArV (gVar 15) gArN)))) gArN)) (gCallP (f_law_plain K ev 6) (gArV (gD (gCallP (f_law_is_parts K ev) (gArV (gFrz 4) (gArV (gVar 15) gArN)))) gArN))))
  (gRet (gV (gC (.bl false))))
  gNext)
  (gThen (gSet 16 (gV (gD (gIx false (gLst (gCons (gTup (gCons (gD (gSl true (gV (gVar 13)) none (some (gNeg (gC (.int (1))))))) (gCons (gC (.int (1))) gNil))) (gCons (gTup (gCons (gCatT (gVar 13) (gTup (gCons (gC (.int (0))) gNil))) (gCons (gC (.int (1))) gNil))) (gCons (gTup (gCons (gCatT (gD (gSl true (gV (gVar 13)) none (some (gNeg (gC (.int (1))))))) (gTup (gCons (gVar 2) gNil))) (gCons (gC (.int (1))) gNil))) gNil)))) (gD (gCall (f_law_take K ev) (gArIo 1 (gArV (gC (.int (3))) gArN))))))))
  (gIfS (gBool (gOp (dIsBl true) (gD (gCallP (f_judge_parts K ev) (gArV (gFrz 4) (gArV (gD (gNew2 true dCat (gV (gVar 8)) (gLst (gCons (gVar 16) gNil)))) gArN)))) (gC (.bl false))))
  (gRet (gV (gC (.bl false))))
  gNext))))))))
  gNext)
  (gThen (gSet 9 (gV (gD (gCall (f_law_take K ev) (gArIo 1 (gArV (gC (.int (2))) gArN))))))
  (gThen (gSet 10 (gV (gD (gLst (gCons (gD (gCallP (f_law_why K ev) (gArV (gVar 9) (gArV (gD (gLst (gCons (gD (gLst (gCons (gC (.int (1))) (gCons (gC (.int (0))) gNil)))) (gCons (gD (gLst (gCons (gNeg (gC (.int (1)))) gNil))) gNil)))) (gArV (gD (gLst gNil)) gArN))))) (gCons (gD (gCallP (f_law_why K ev) (gArV (gVar 9) (gArV (gD (gLst (gCons (gD (gLst (gCons (gC (.int (2))) (gCons (gNeg (gC (.int (1)))) gNil)))) (gCons (gD (gLst (gCons (gC (.int (0))) (gCons (gC (.int (2))) gNil)))) gNil)))) (gArV (gD (gLst gNil)) gArN))))) (gCons (gD (gCallP (f_law_why K ev) (gArV (gVar 9) (gArV (gD (gLst (gCons (gD (gLst (gCons (gC (.int (1))) (gCons (gC (.int (0))) gNil)))) (gCons (gD (gLst (gCons (gC (.int (1))) (gCons (gC (.int (0))) gNil)))) gNil)))) (gArV (gD (gLst gNil)) gArN))))) gNil)))))))
  (gThen (gIfS (gBool (gOpV true (dEq true) (gV (gVar 10)) (gLst (gCons (gTup (gCons (gC (.str "matrix")) (gCons (gC (.str "square")) gNil))) (gCons (gTup (gCons (gC (.str "matrix")) (gCons (gC (.str "entries")) gNil))) (gCons (gTup (gCons (gC (.str "matrix")) (gCons (gC (.str "sums")) gNil))) gNil))))))
  (gRet (gV (gC (.bl false))))
  gNext)
  (gThen (gSet 11 (gV (gD (gLc true [(17 : Nat)] (gIt dRange1 (gCons (gC (.int (7))) gNil)) (gaName 17) gYes (gD (gLc true [(18 : Nat)] (gIt dRange1 (gCons (gC (.int (7))) gNil)) (gaName 18) gYes (gApp dInt (gCons (gOpV true (dEq false) (gV (gVar 17)) (gV (gVar 18))) gNil))))))))
  (gRet (gV (gAndV (gOpV true (dEq false) (gCallP (f_law_why K ev) (gArV (gC (.int (0))) (gArV (gVar 11) (gArV (gD (gLst gNil)) gArN)))) (gV (gTup (gCons (gC (.str "many")) (gCons (gC (.str "rows")) gNil))))) (gOp (dIsBl false) (gD (gCallP (f_judge_parts K ev) (gArV (gVar 11) (gArV (gD (gLst (gCons (gTup (gCons (gTRange (gC (.int (7)))) (gCons (gC (.int (1))) gNil))) gNil))) gArN)))) (gC (.bl true))))))))))))))))))))))
theorem b_law {P : Program} {w : World} {K : PySem.W.Frag} {mg : Str → Option Value} {base : Heap} {ev : Ev} (T : Txt K mg) (C_law_deck : Cal P w K mg base 2 "_law_deck" 3 (f_law_deck K ev)) (C_law_is_parts : Cal P w K mg base 2 "_law_is_parts" 2 (f_law_is_parts K ev)) (C_law_made : Cal P w K mg base 6 "_law_made" 2 (f_law_made K ev)) (C_law_order : Cal P w K mg base 4 "_law_order" 2 (f_law_order K ev)) (C_law_plain : Cal P w K mg base 6 "_law_plain" 1 (f_law_plain K ev 6)) (C_law_take : Cal P w K mg base 2 "_law_take" 2 (f_law_take K ev)) (C_law_why : Cal P w K mg base 7 "_law_why" 3 (f_law_why K ev)) (C_judge_parts : Cal P w K mg base 5 "judge_parts" 2 (f_judge_parts K ev)) (C_parts_of_square : Cal P w K mg base 5 "parts_of_square" 1 (f_parts_of_square K ev)) (CS : CalS P w K mg base 6) {f : Addr} (cdv : Value) (A : Around) (outer : List Env) (s : Shared) (H : Hp) (E : XK) (hr : Room 8 (A.deeper (envOfC "law" (defScope s_law) s.heap.objs.size f cdv))) :
    VSs (cxOf (L2.CX P w) P w K mg base N_law "law" (defScope s_law) f cdv A outer s H E) (fun cls d _ H => E cls d H) (defBody s_law) (g_law K ev) := by
  have hu : (cxOf (L2.CX P w) P w K mg base N_law "law" (defScope s_law) f cdv A outer s H E).A.units + 64 < cLine := by
    have := hr.un
    show (A.deeper (envOfC "law" (defScope s_law) s.heap.objs.size f cdv)).units + 64 < cLine
    omega
  unfold g_law
  exact (vss_cons (vs_set 1 (ve_callP C_law_deck vtakes hr (by decide) (var_v (vd_var 0) (var_v vd_int (var_v vd_int var_nil))) (arV_len (arV_len (arV_len arN_len)))) sc_law.nd)
  (vss_cons (vs_set 2 (VD.v (VE.d (ve_callC C_law_take vtakes hr (by decide) (var_io 1 (var_v vd_int var_nil)) (arIo_len (arV_len arN_len))))) sc_law.nd)
  (vss_cons (vs_set 3 (VD.v (VE.d (ve_if (vt_cmp op_gt opd_B (nomark _) (vd_var 2) vd_int) (ve_callC C_law_made vtakes hr (by decide) (var_io 1 (var_v (vd_var 2) var_nil)) (arIo_len (arV_len arN_len))) (ve_lst va_nil)))) sc_law.nd)
  (vss_cons (vs_setLcO (m := 1) 4 (own := [(("row" : Str), 17)]) rfl sc_law.nd (vi_range1 true (va_cons (vd_var 2) va_nil) T.z_range) (blkOk_by (by rfl)) (fun _ _ _ _ _ => (vg_name 17 sc_law.nd)) (fun _ _ _ _ _ => vts_nil) (fun _ _ _ _ _ => (ve_op2 op_rep opn_rep (ve_lst (va_cons vd_int va_nil)) (VD.v (vd_var 2)))) (by rfl))
  (vss_cons (vs_for vpasses rfl (vi_seq false (VD.v (vd_var 3))) (vg_tup rfl (vgs_cons (vg_name 5 sc_law.nd) (vgs_cons (vg_name 6 sc_law.nd) vgs_nil)))
  (vss_one (vs_for vpasses rfl (vi_range1 false (va_cons (vd_var 2) va_nil) T.z_range) (vg_name 12 sc_law.nd)
  (vss_one (vs_setPl (VD.v (vd_op op_add opd_I0 (VE.d (ve_ix (ve_ixN 4 (vd_var 12)) (VE.d (ve_ixN 5 (vd_var 12))))) (vd_var 6))) (vpl_ix (vpl_var 4) (vd_var 12)) (VE.d (ve_ixN 5 (vd_var 12))))))))
  (vss_cons (vs_fzS 4 (vs_setLc true 7 (own := [(("row" : Str), 17)]) (pu := true) rfl sc_law.nd (vi_seq true (VD.v (vd_var 4))) (blkOk_by (by rfl)) (fun _ _ _ _ _ => (vg_name 17 sc_law.nd)) (fun _ _ _ _ _ => vts_nil) (fun _ _ _ _ _ => (vd_tupOf (VD.v (vd_var 17)) (hm := T.z_tuple))) (by rfl) rfl (by decide)))
  (vss_cons (vs_spoil CS vtakes hr (by decide) (ve_callP C_parts_of_square vtakes hr (by decide) (var_v (vd_var 7) var_nil) (arV_len arN_len)))
  (vss_cons (vs_set 8 (VD.v (VE.d (ve_callP C_parts_of_square vtakes hr (by decide) (var_v (vd_var 7) var_nil) (arV_len arN_len)))) sc_law.nd)
  (vss_cons (vs_if (VW.vt (vw_or (vt_not (vt_tru (VD.v (vd_callB (callR_or call_isi call_isiT) cd_isi (va_cons (vd_var 8) (va_cons (vd_type (hm := T.z_list) (hv := by decide +kernel)) va_nil)) (hm := T.z_isinstance) (hv := by decide +kernel))))) (vw_or1 (vt_not (vt_tru (ve_callP C_law_is_parts vtakes hr (by decide) (var_v (vd_frz 4) (var_v (vd_var 8) var_nil)) (arV_len (arV_len arN_len))))))))
  (vss_one (vs_ret (VD.v vd_bl)))
  vss_nil)
  (vss_cons (vs_if (vt_cmpV (op_neP hu) opv_eq (nomark _) (ve_callP C_law_plain vtakes hr (by decide) (var_v (vd_var 8) var_nil) (arV_len arN_len)) (ve_callP C_law_plain vtakes hr (by decide) (var_v (VE.d (ve_lc (own := [(("chosen" : Str), 5), (("number" : Str), 6)]) (pu := true) rfl sc_law.nd (vi_seq true (VD.v (vd_var 8))) (blkOk_by (by rfl)) (fun _ _ _ _ _ => (vg_tup rfl (vgs_cons (vg_name 5 sc_law.nd) (vgs_cons (vg_name 6 sc_law.nd) vgs_nil)))) (fun _ _ _ _ _ => vts_nil) (fun _ _ _ _ _ => (vd_tup (va_cons (vd_tupOf (VD.v (vd_var 5)) (hm := T.z_tuple)) (va_cons (vd_callTy call_int1 cd_int (va_cons (vd_var 6) va_nil) (hm := T.z_int) (hv := by decide +kernel)) va_nil)))) (by rfl) rfl (by decide))) var_nil) (arV_len arN_len)))
  (vss_one (vs_ret (VD.v vd_bl)))
  vss_nil)
  (vss_cons (vs_if (VW.vt (vw_or (vt_cmp op_isnotBl opd_isBl (nomark _) (VE.d (ve_callP C_judge_parts vtakes hr (by decide) (var_v (vd_var 7) (var_v (vd_var 8) var_nil)) (arV_len (arV_len arN_len)))) vd_bl) (vw_or1 (vt_cmp op_isnotBl opd_isBl (nomark _) (VE.d (ve_callP C_judge_parts vtakes hr (by decide) (var_v (vd_frz 4) (var_v (vd_var 3) var_nil)) (arV_len (arV_len arN_len)))) vd_bl))))
  (vss_one (vs_ret (VD.v vd_bl)))
  vss_nil)
  (vss_cons (vs_if (vt_cmp op_gt opd_B (nomark _) (vd_var 2) vd_int)
  (vss_cons (vs_set 13 (VD.v (vd_tupOf (ve_callC C_law_order vtakes hr (by decide) (var_io 1 (var_v (vd_var 2) var_nil)) (arIo_len (arV_len arN_len))) (hm := T.z_tuple))) sc_law.nd)
  (vss_cons (vs_setLc true 14 (own := [(("at" : Str), 12)]) (pu := true) rfl sc_law.nd (vi_range1 true (va_cons (vd_var 2) va_nil) T.z_range) (blkOk_by (by rfl)) (fun _ _ _ _ _ => (vg_name 12 sc_law.nd)) (fun _ _ _ _ _ => vts_nil) (fun _ _ _ _ _ => (VE.d (ve_lc (own := [(("place" : Str), 18)]) (pu := true) rfl sc_law.nd (vi_range1 true (va_cons (vd_var 2) va_nil) T.z_range) (blkOk_by (by rfl)) (fun _ _ _ _ _ => (vg_name 18 sc_law.nd)) (fun _ _ _ _ _ => vts_nil) (fun _ _ _ _ _ => (vd_callTy call_int1 cd_int (va_cons (vd_cmpV (op_eqP hu) opv_eq (nomark _) (ve_ixN 13 (vd_var 12)) (VD.v (vd_var 18))) va_nil) (hm := T.z_int) (hv := by decide +kernel))) (by rfl) rfl (by decide)))) (by rfl) rfl (by decide))
  (vss_cons (vs_if (vt_cmpV (op_neP hu) opv_eq (nomark _) (ve_callP C_parts_of_square vtakes hr (by decide) (var_v (vd_var 14) var_nil) (arV_len arN_len)) (ve_lst (va_cons (vd_tup (va_cons (vd_var 13) (va_cons vd_int va_nil))) va_nil)))
  (vss_one (vs_ret (VD.v vd_bl)))
  vss_nil)
  (vss_cons (vs_set 15 (VD.v (VE.d (ve_op2 op_cat opn_cat (ve_newTy1 call_list_of cn_list (VD.v (vd_var 8)) (hm := T.z_list) (hv := by decide +kernel)) (ve_lst (va_cons (vd_tup (va_cons (vd_var 13) (va_cons (vd_op op_sub opd_I0 (VE.d (ve_callC C_law_take vtakes hr (by decide) (var_io 1 (var_v vd_int var_nil)) (arIo_len (arV_len arN_len)))) vd_int) va_nil))) va_nil))))) sc_law.nd)
  (vss_cons (vs_if (VW.vt (vw_and (vt_cmp op_gt opd_B (nomark _) (vd_callB1 call_len cv_len (VD.v (vd_var 8)) (hm := T.z_len) (hv := by decide +kernel)) vd_int) (vw_and1 (vt_cmpV (op_eqP hu) opv_eq (nomark _) (ve_callC C_law_take vtakes hr (by decide) (var_io 1 (var_v vd_int var_nil)) (arIo_len (arV_len arN_len))) (VD.v vd_int)))))
  (vss_cons (vs_set 12 (VD.v (VE.d (ve_callC C_law_take vtakes hr (by decide) (var_io 1 (var_v (vd_callB1 call_len cv_len (VD.v (vd_var 8)) (hm := T.z_len) (hv := by decide +kernel)) var_nil)) (arIo_len (arV_len arN_len))))) sc_law.nd)
  (vss_one (vs_set 15 (VD.v (VE.d (ve_op2 op_cat opn_cat (ve_op2 op_cat opn_cat (ve_sl (q := true) (VD.v (vd_var 8)) True.intro (vd_var 12)) (ve_lst (va_cons (vd_tup (va_cons (VE.d (ve_ix (ve_ixN 8 (vd_var 12)) vd_int)) (va_cons (vd_op op_sub opd_I0 (vd_op op_add opd_I0 (VE.d (ve_ix (ve_ixN 8 (vd_var 12)) vd_int)) (VE.d (ve_callC C_law_take vtakes hr (by decide) (var_io 1 (var_v vd_int var_nil)) (arIo_len (arV_len arN_len))))) vd_int) va_nil))) va_nil))) (ve_sl (q := true) (VD.v (vd_var 8)) (vd_op op_add opd_I0 (vd_var 12) vd_int) True.intro)))) sc_law.nd)))
  vss_nil)
  (vss_cons (vs_if (vt_cmpV (op_neP hu) opv_eq (nomark _) (ve_callP C_law_plain vtakes hr (by decide) (var_v (VE.d (ve_callP C_judge_parts vtakes hr (by decide) (var_v (vd_frz 4) (var_v (vd_var 15) var_nil)) (arV_len (arV_len arN_len)))) var_nil) (arV_len arN_len)) (ve_callP C_law_plain vtakes hr (by decide) (var_v (VE.d (ve_callP C_law_is_parts vtakes hr (by decide) (var_v (vd_frz 4) (var_v (vd_var 15) var_nil)) (arV_len (arV_len arN_len)))) var_nil) (arV_len arN_len)))
  (vss_one (vs_ret (VD.v vd_bl)))
  vss_nil)
  (vss_cons (vs_set 16 (VD.v (VE.d (ve_ix (ve_lst (va_cons (vd_tup (va_cons (VE.d (ve_sl (q := true) (VD.v (vd_var 13)) True.intro (vd_neg vd_int))) (va_cons vd_int va_nil))) (va_cons (vd_tup (va_cons (vd_catT (vd_var 13) (vd_tup (va_cons vd_int va_nil))) (va_cons vd_int va_nil))) (va_cons (vd_tup (va_cons (vd_catT (VE.d (ve_sl (q := true) (VD.v (vd_var 13)) True.intro (vd_neg vd_int))) (vd_tup (va_cons (vd_var 2) va_nil))) (va_cons vd_int va_nil))) va_nil)))) (VE.d (ve_callC C_law_take vtakes hr (by decide) (var_io 1 (var_v vd_int var_nil)) (arIo_len (arV_len arN_len))))))) sc_law.nd)
  (vss_one (vs_if (vt_cmp op_isnotBl opd_isBl (nomark _) (VE.d (ve_callP C_judge_parts vtakes hr (by decide) (var_v (vd_frz 4) (var_v (VE.d (ve_op2 op_cat opn_cat (VD.v (vd_var 8)) (ve_lst (va_cons (vd_var 16) va_nil)))) var_nil)) (arV_len (arV_len arN_len)))) vd_bl)
  (vss_one (vs_ret (VD.v vd_bl)))
  vss_nil)))))))))
  vss_nil)
  (vss_cons (vs_set 9 (VD.v (VE.d (ve_callC C_law_take vtakes hr (by decide) (var_io 1 (var_v vd_int var_nil)) (arIo_len (arV_len arN_len))))) sc_law.nd)
  (vss_cons (vs_set 10 (VD.v (VE.d (ve_lst (va_cons (VE.d (ve_callP C_law_why vtakes hr (by decide) (var_v (vd_var 9) (var_v (VE.d (ve_lst (va_cons (VE.d (ve_lst (va_cons vd_int (va_cons vd_int va_nil)))) (va_cons (VE.d (ve_lst (va_cons (vd_neg vd_int) va_nil))) va_nil)))) (var_v (VE.d (ve_lst va_nil)) var_nil))) (arV_len (arV_len (arV_len arN_len))))) (va_cons (VE.d (ve_callP C_law_why vtakes hr (by decide) (var_v (vd_var 9) (var_v (VE.d (ve_lst (va_cons (VE.d (ve_lst (va_cons vd_int (va_cons (vd_neg vd_int) va_nil)))) (va_cons (VE.d (ve_lst (va_cons vd_int (va_cons vd_int va_nil)))) va_nil)))) (var_v (VE.d (ve_lst va_nil)) var_nil))) (arV_len (arV_len (arV_len arN_len))))) (va_cons (VE.d (ve_callP C_law_why vtakes hr (by decide) (var_v (vd_var 9) (var_v (VE.d (ve_lst (va_cons (VE.d (ve_lst (va_cons vd_int (va_cons vd_int va_nil)))) (va_cons (VE.d (ve_lst (va_cons vd_int (va_cons vd_int va_nil)))) va_nil)))) (var_v (VE.d (ve_lst va_nil)) var_nil))) (arV_len (arV_len (arV_len arN_len))))) va_nil)))))) sc_law.nd)
  (vss_cons (vs_if (vt_cmpV (op_neP hu) opv_eq (nomark _) (VD.v (vd_var 10)) (ve_lst (va_cons (vd_tup (va_cons vd_str (va_cons vd_str va_nil))) (va_cons (vd_tup (va_cons vd_str (va_cons vd_str va_nil))) (va_cons (vd_tup (va_cons vd_str (va_cons vd_str va_nil))) va_nil)))))
  (vss_one (vs_ret (VD.v vd_bl)))
  vss_nil)
  (vss_cons (vs_setLc true 11 (own := [(("row" : Str), 17)]) (pu := true) rfl sc_law.nd (vi_range1 true (va_cons vd_int va_nil) T.z_range) (blkOk_by (by rfl)) (fun _ _ _ _ _ => (vg_name 17 sc_law.nd)) (fun _ _ _ _ _ => vts_nil) (fun _ _ _ _ _ => (VE.d (ve_lc (own := [(("place" : Str), 18)]) (pu := true) rfl sc_law.nd (vi_range1 true (va_cons vd_int va_nil) T.z_range) (blkOk_by (by rfl)) (fun _ _ _ _ _ => (vg_name 18 sc_law.nd)) (fun _ _ _ _ _ => vts_nil) (fun _ _ _ _ _ => (vd_callTy call_int1 cd_int (va_cons (vd_cmpV (op_eqP hu) opv_eq (nomark _) (VD.v (vd_var 17)) (VD.v (vd_var 18))) va_nil) (hm := T.z_int) (hv := by decide +kernel))) (by rfl) rfl (by decide)))) (by rfl) rfl (by decide))
  (vss_one (vs_ret (VD.v (vd_and (vd_cmpV (op_eqP hu) opv_eq (nomark _) (ve_callP C_law_why vtakes hr (by decide) (var_v vd_int (var_v (vd_var 11) (var_v (VE.d (ve_lst va_nil)) var_nil))) (arV_len (arV_len (arV_len arN_len)))) (VD.v (vd_tup (va_cons vd_str (va_cons vd_str va_nil))))) (vd_one (vd_cmp op_isBl opd_isBl (nomark _) (VE.d (ve_callP C_judge_parts vtakes hr (by decide) (var_v (vd_var 11) (var_v (VE.d (ve_lst (va_cons (vd_tup (va_cons (vd_trange vd_int rfl T.z_range T.z_tuple) (va_cons vd_int va_nil))) va_nil))) var_nil)) (arV_len (arV_len arN_len)))) vd_bl))))))))))))))))))))))
end VL

set_option Elab.async false
set_option linter.all false
set_option autoImplicit false
set_option maxRecDepth 100000
namespace VL
open PySem PySem.Spec L2
open PyProof.Rows hiding St
def rowN (n : Nat) (g : Nat → Int) : List Int := (List.range n).map g
def mt (c : List Int → D) (n : Nat) (f : Nat → Nat → Int) : D := .lst ((List.range n).map fun i => c (rowN n (f i)))
theorem rowN_len (n : Nat) (g : Nat → Int) : (rowN n g).length = n := by simp [rowN]
theorem rowN_get {n : Nat} {g : Nat → Int} {i : Nat} (h : i < n) : (rowN n g)[i]? = some (g i) := by simp [rowN, h]
theorem rowN_congr {n : Nat} {g h : Nat → Int} (e : ∀ i, i < n → g i = h i) : rowN n g = rowN n h := List.map_congr_left fun i hi => e i (List.mem_range.mp hi)
theorem mt_congr {c : List Int → D} {n : Nat} {f g : Nat → Nat → Int} (e : ∀ i j, i < n → j < n → f i j = g i j) : mt c n f = mt c n g := by
  unfold mt
  congr 1
  refine List.map_congr_left fun i hi => ?_
  rw [rowN_congr fun j hj => e i j (List.mem_range.mp hi) hj]
theorem range_set {α : Type} {n c : Nat} (g : Nat → α) (z : α) : ((List.range n).map g).set c z = (List.range n).map fun j => if j = c then z else g j := by
  apply List.ext_getElem?
  intro i
  rw [List.getElem?_set]
  simp only [List.length_map, List.length_range, List.getElem?_map]
  by_cases h : c = i
  · subst h
    rw [if_pos rfl]
    by_cases hc : c < n
    · rw [if_pos hc, List.getElem?_range hc]; simp
    · rw [if_neg hc, List.getElem?_eq_none (by simp; omega)]; rfl
  · rw [if_neg h]
    by_cases hi : i < n
    · rw [List.getElem?_range hi]
      have : ¬ i = c := fun e => h e.symm
      simp [this]
    · rw [List.getElem?_eq_none (by simp; omega)]; rfl
theorem ixN_nat {n k : Nat} (h : k < n) : ixN n (k : Int) = some k := by
  unfold ixN
  simp [seqIndex?, h]
theorem lI_row (n : Nat) (g : Nat → Int) : lI (rowN n g) = .lst ((List.range n).map fun j => D.int (g j)) := by simp [lI, rowN, List.map_map, Function.comp_def]
theorem tI_row (n : Nat) (g : Nat → Int) : tI (rowN n g) = .tup ((List.range n).map fun j => D.int (g j)) := by simp [tI, rowN, List.map_map, Function.comp_def]
theorem rget {α : Type} {n i : Nat} (g : Nat → α) (h : i < n) : ((List.range n).map g)[i]? = some (g i) := by simp [h]
theorem set_mt {n r c : Nat} {f : Nat → Nat → Int} {z : Int} (h1 : r < n) : D.put [.ix r] (mt lI n f) (.lst (((List.range n).map fun j => D.int (f r j)).set c (.int z))) = mt lI n (fun a b => if a = r ∧ b = c then z else f a b) := by
  unfold mt
  simp only [D.put, rget _ h1, range_set]
  congr 1
  refine List.map_congr_left fun a ha => ?_
  by_cases har : a = r
  · subst har
    rw [if_pos rfl, lI_row]
    congr 1
    refine List.map_congr_left fun b hb => ?_
    by_cases hbc : b = c <;> simp [hbc]
  · rw [if_neg har]
    congr 1
    exact rowN_congr fun b _ => by simp [har]
section
variable {S : Sl} {i n r c : Nat} {b : Bool} {f : Nat → Nat → Int} {gr gc : Sl → R D}
theorem at_mt (h1 : r < n) : D.at [.ix r] (mt lI n f) = some (.lst ((List.range n).map fun j => D.int (f r j))) := by
  simp only [mt, D.at, rget _ h1, lI_row]
theorem pl_mt (hS : S[i]? = some ⟨b, some (2, mt lI n f)⟩) (hr : gr S = .ok (.int (r : Nat)) S) (h1 : r < n) : plIx (plVar i) gr S = some (i, [.ix r]) := by
  have e1 : plVar i S = some (i, []) := by simp [plVar, hS]
  have e2 : D.at [] (mt lI n f) = some (.lst ((List.range n).map fun i => lI (rowN n (f i)))) := rfl
  unfold plIx
  rw [e1]
  simp only [hr, hS, e2, List.length_nil, Nat.zero_lt_succ, if_true, List.length_map, List.length_range, ixN_nat h1, List.nil_append]
theorem subL_mt (hS : S[i]? = some ⟨b, some (2, mt lI n f)⟩) (h1 : r < n) : subL S i [.ix r] = some (2, mt lI n f, 0, (List.range n).map fun j => D.int (f r j)) := by
  unfold subL
  rw [hS]
  simp [at_mt h1]
theorem setPl_mt {gx : Sl → R Vl} {z : Int} (hS : S[i]? = some ⟨b, some (2, mt lI n f)⟩) (hx : gx S = .ok ⟨false, 0, .int z⟩ S) (hr : gr S = .ok (.int (r : Nat)) S) (hc : gc S = .ok (.int (c : Nat)) S) (h1 : r < n) (h2 : c < n) :
    gSetPl gx (plIx (plVar i) gr) gc S = .ok .nx (S.put i (some (2, mt lI n fun a b => if a = r ∧ b = c then z else f a b))) := by
  unfold gSetPl
  rw [hx]
  simp only [R.bind, Bool.false_eq_true, if_false, pl_mt hS hr h1, hc, subL_mt hS h1, List.length_map, List.length_range, ixN_nat h2]
  rw [set_mt h1]
  rfl
theorem augPl_mt {gx : Sl → R D} {z : Int} (hS : S[i]? = some ⟨b, some (2, mt lI n f)⟩) (hx : gx S = .ok (.int z) S) (hr : gr S = .ok (.int (r : Nat)) S) (hc : gc S = .ok (.int (c : Nat)) S) (h1 : r < n) (h2 : c < n) :
    gAugPl dSub (plIx (plVar i) gr) gc gx S = .ok .nx (S.put i (some (2, mt lI n fun a b => if a = r ∧ b = c then f r c - z else f a b))) := by
  unfold gAugPl
  simp only [pl_mt hS hr h1, hc, R.bind, subL_mt hS h1, List.length_map, List.length_range, ixN_nat h2, rget _ h2, D.atom, if_true, hx, hI_int]
  rw [set_mt h1]
end
end VL

set_option Elab.async false
set_option linter.all false
set_option autoImplicit false
set_option maxRecDepth 100000
set_option maxHeartbeats 4000000
namespace VL
open PySem PySem.Spec L2
open PyProof.Rows hiding St
local macro_rules
  | `(tactic| simp_arith [$ts,*]) => `(tactic| simp only [↓w_ok, ↓w_err, ↓w_stuck, ↓w_if, ↓w_gD, ↓w_gV, ↓w_gOp, ↓w_gBool, ↓w_gCons, ↓w_gLst, ↓w_gTup, ↓w_gApp, ↓w_gApp1, ↓w_gNew1, ↓w_gOpV, ↓w_gIx, ↓w_gPart_n, ↓w_gPart_s, ↓w_gSl, ↓w_gNew2, ↓w_gCatT, ↓w_gTupOf, ↓w_gSeq, ↓w_gAnd, ↓w_gOr, ↓w_gNot, ↓w_gAndV, ↓w_gOrV, ↓w_gNotV, ↓w_gIfE, ↓w_gTru, ↓w_gThen, ↓w_gDrop, ↓w_gRet, ↓w_gIfS, ↓w_gSet, ↓w_gAsg, ↓w_gFor, ↓w_gArV, ↓w_gCall, ↓w_gCallP, ↓w_gLenSet, ↓w_gRaise, ↓w_gIt, ↓w_gEnum, ↓w_gLRange, ↓w_gArIo, ↓w_gIxN, ↓w_gApd, ↓w_gPopAt, ↓w_gSetIx, ↓w_gDPut, ↓w_gNeg, ↓w_gTRange, ↓w_gEnumS, ↓w_gDIx, ↓w_gDGet2, ↓w_gBest, ↓w_gLend, ↓w_gFzS, ↓w_gAug, ↓w_gExtV, ↓w_fn, ↓w_loop_c, loop_n,
      Sl.wipe, wipeFrom, List.contains_cons, List.contains_nil, Nat.reduceBEq, Nat.reduceAdd, Nat.zero_add, beq_self_eq_true, seqV_t, seqV_l0, seqV_l1, u_gWalk, u_gVar, u_gC, u_gNil, u_gBor, u_gMov, u_gFrz, u_gYes, u_gNext, u_gBreak, u_gCont, u_gRetN, u_gArN, u_gPop, u_gDnewK, u_gDnewT, u_gListKeys, u_gRev, u_gaName, u_gaNil, u_gaCons, u_gaTup,
      put_0, put_s, List.getElem?_cons_zero, List.getElem?_cons_succ, List.cons_append, List.nil_append, List.replicate_succ, List.replicate_zero, keep_0, keep_f, keep_t, arg_n, arg_v, arg_io, allV_n, allV_v, okIo_n, okIo_v, okIo_i, idxIo_n, idxIo_v, idxIo_i, backSl, backFrom, Option.isNone_none, Option.isNone_some, Option.map_none, Option.map_some, lev_0, lev_1, lineOk,
      hI_int, hB_int, Bool.not_true, Bool.not_false, Bool.and_true, Bool.and_false, Bool.true_and, Bool.false_and, Bool.or_true, Bool.or_false, Bool.true_or, Bool.false_or, if_true, if_false, eq_self, true_and, and_true, Bool.false_eq_true, List.length_cons, List.length_nil, Nat.le_add_left, D.atom, itemsV, $ts,*])
theorem dLen_lI (l : List Int) : dLen (lI l) = some (.int l.length) := by simp [dLen, lI]
theorem dLen_tI (l : List Int) : dLen (tI l) = some (.int l.length) := by simp [dLen, tI]
theorem dLen_lst (l : List D) : dLen (.lst l) = some (.int l.length) := rfl
theorem dLen_tup (l : List D) : dLen (.tup l) = some (.int l.length) := rfl
theorem dSum_lI (l : List Int) : dSumS (lI l) = some (.int l.sum) := by simp [dSumS, lI, ints_map]
theorem dSum_tI (l : List Int) : dSumS (tI l) = some (.int l.sum) := by simp [dSumS, tI, ints_map]
theorem dSum_int (l : List Int) : dSumS (.lst (l.map D.int)) = some (.int l.sum) := by simp [dSumS, ints_map]
theorem items_lI (b : Bool) (l : List Int) : itemsV ⟨b, 0, lI l⟩ = some (l.map D.int) := rfl
theorem items_tI (b : Bool) (k : Nat) (l : List Int) : itemsV ⟨b, k, tI l⟩ = some (l.map D.int) := rfl
theorem dAny_map {α : Type} (L : List α) (g : α → Bool) : dAnyS (.lst (L.map fun x => .bl (g x))) = some (.bl (L.any g)) := by
  have : D.bls (L.map fun x => D.bl (g x)) = some (L.map g) := by
    have := bls_bl (L.map g)
    rwa [List.map_map] at this
  simp only [dAnyS, this]
  rw [List.any_map]; rfl
theorem filter_tt {α : Type} (L : List α) : (L.filter fun _ => true) = L := by simp
theorem any_ff {α : Type} (L : List α) : (L.any fun _ => false) = false := by simp
theorem row_sum (n : Nat) (g : Nat → Int) : (rowN n g).sum = sumN n g := rfl
theorem ints_rowN (n : Nat) (g : Nat → Int) : ((List.range n).map fun i => D.int (g i)) = (rowN n g).map D.int := by simp [rowN, List.map_map, Function.comp_def]
theorem flat_any {α β : Type} (L : List α) (L1 : α → List β) (g : α → β → Bool) : dAnyS (.lst (L.flatMap fun a => (L1 a).map fun b => .bl (g a b))) = some (.bl (L.any fun a => (L1 a).any (g a))) := by
  have : D.bls (L.flatMap fun a => (L1 a).map fun b => D.bl (g a b)) = some (L.flatMap fun a => (L1 a).map (g a)) := by
    have := bls_bl (L.flatMap fun a => (L1 a).map (g a))
    rw [List.map_flatMap] at this
    simpa [List.map_map, Function.comp_def] using this
  simp only [dAnyS, this]
  rw [List.any_flatMap]
  simp [List.any_map, Function.comp_def]
theorem len_flat {α β γ : Type} (L : List α) (L1 : α → List β) (g : α → β → γ) (m : Nat) (h : ∀ a ∈ L, (L1 a).length ≤ m) : (L.flatMap fun a => (L1 a).map (g a)).length ≤ L.length * m := by
  induction L with
  | nil => simp
  | cons a L ih =>
    have h1 := h a (by simp)
    have h2 := ih fun b hb => h b (by simp [hb])
    simp only [List.flatMap_cons, List.length_append, List.length_map, List.length_cons, Nat.add_mul, Nat.one_mul] at *
    omega
theorem gt_int (a b : Int) : dGt (.int a) (.int b) = some (.bl (decide (b < a))) := rfl
theorem lt_int (a b : Int) : dLt (.int a) (.int b) = some (.bl (decide (a < b))) := rfl
theorem nub_const (t : Int) : ∀ l : List Int, (∀ x ∈ l, x = t) → (nub l).length ≤ 1
  | [], h => by simp [nub]
  | [a], h => by simp [nub]
  | a :: a' :: l, h => by
    have h1 := h a (by simp)
    have h2 := h a' (by simp)
    have h3 := nub_const t (a' :: l) fun x hx => h x (by simp [hx])
    rw [nub, if_pos (by rw [h1, h2]; simp)]
    exact h3
theorem lc_int {α : Type} (L : List α) (g : α → Int) : (L.map fun i => D.int (g i)) = (L.map g).map D.int := by simp [List.map_map, Function.comp_def]
theorem cat_ints (a b : List Int) : dCat (.lst (a.map D.int)) (.lst (b.map D.int)) = if a.length + b.length ≤ 16777216 then some ((a ++ b).map D.int) else none := by
  simp [dCat, lineOk]
theorem atI_rng {α : Type} {n j : Nat} (g : Nat → α) (h : j < n) : atI ((List.range n).map g) (j : Int) = some (g j) := by
  rw [atI_nat (by simp; exact h)]
  simp
theorem ix_lI {b : Bool} {k n j : Nat} (hk : k ≤ 1) {g : Nat → Int} (h : j < n) : ixV ⟨b, k, lI (rowN n g)⟩ (.int (j : Nat)) = some (.fzn (.int (g j))) := by
  rw [lI_row]
  simp only [ixV, atI_rng _ h, Option.map_some, elemV, hk, decide_true, Bool.true_or, if_true]
theorem ix_tI {b : Bool} {k n j : Nat} {g : Nat → Int} (h : j < n) : ixV ⟨b, k, tI (rowN n g)⟩ (.int (j : Nat)) = some (.fzn (.int (g j))) := by
  rw [tI_row]
  simp only [ixV, atI_rng _ h, Option.map_some]
theorem ix_mt2 {b : Bool} {n j : Nat} {f : Nat → Nat → Int} (h : j < n) : ixV ⟨b, 2, mt lI n f⟩ (.int (j : Nat)) = some ⟨true, 1, lI (rowN n (f j))⟩ := by
  simp only [mt, ixV, atI_rng _ h, Option.map_some, elemV]
  rfl
theorem cut1 {α : Type} (l : List α) : cutD l none (some 1) = l.take 1 := by
  cases l with
  | nil => rfl
  | cons a l => exact cutD_take (k := 1) (by simp)
theorem cs_ok (K : PySem.W.Frag) (ev : Ev) {c : List Int → D} (hc : c = lI ∨ c = tI) {n : Nat} {t : Int} {f : Nat → Nat → Int} (b : Bal n t f) (hn : n ≤ 30) :
    f_check_square K ev [⟨false, some (0, mt c n f)⟩] = .ok ⟨false, 0, .int (if n = 0 then 0 else t)⟩ [⟨false, none⟩] := by
  apply w_eq
  unfold f_check_square
  simp_arith []
  unfold g_check_square
  simp_arith [mt]
  refine w_lc (fun i => c (rowN n (f i))) (fun _ => true) (fun _ => .bl false) (List.range n) ?_ rfl (by simp; omega) (fun i hi => ?_) ?_
  · simp_arith []
  · rcases hc with rfl | rfl <;> simp_arith [dLen_lI, dLen_tI, dLen_lst, rowN_len, List.length_map, List.length_range, dEq_int, Bool.not_true, implies_true]
  simp_arith [dAny_map, filter_tt, any_ff, truD]
  refine w_lc2 (fun i => c (rowN n (f i))) (List.range n) (fun _ i => .int i) (fun i => rowN n (f i)) (fun a b => .bl (decide (b < 0))) ?_ rfl ?_ (fun i hi => ?_) ?_
  · simp_arith []
  · have := len_flat (List.range n) (fun i => rowN n (f i)) (fun a b => D.bl (decide (b < 0))) n (fun a _ => by rw [rowN_len]; exact Nat.le_refl _)
    rw [List.length_range] at this
    have : n * n ≤ 30 * 30 := Nat.mul_le_mul hn hn
    omega
  · rcases hc with rfl | rfl <;> simp_arith [lI, tI, lt_int, wipeOk, List.all_cons, List.all_nil, implies_true]
  have hneg : ((List.range n).any fun a => (rowN n (f a)).any fun b => decide (b < 0)) = false := by
    rw [List.any_eq_false]
    intro i hi
    rw [Bool.not_eq_true, List.any_eq_false]
    intro x hx
    obtain ⟨j, hj, rfl⟩ := List.mem_map.mp hx
    have := b.ge i j (List.mem_range.mp hi) (List.mem_range.mp hj)
    simp; omega
  simp_arith [flat_any, hneg, truD]
  refine w_lc (fun i => c (rowN n (f i))) (fun _ => true) (fun i => .int (sumN n (f i))) (List.range n) ?_ rfl (by simp; omega) (fun i hi => ?_) ?_
  · simp_arith []
  · rcases hc with rfl | rfl <;> simp_arith [dSum_lI, dSum_tI, row_sum, implies_true]
  simp_arith []
  refine w_lc (fun i : Nat => .int (i : Nat)) (fun _ => true) (fun j => .int (sumN n fun i => f i j)) (List.range n) ?_ rfl (by simp; omega) (fun j hj => ?_) ?_
  · simp_arith [dLen_lst, List.length_map, List.length_range, range1_nat (n := n) (by omega)]
  · simp_arith [true_implies, forall_const]
    refine w_lc (fun i => c (rowN n (f i))) (fun _ => true) (fun i => .int (f i j)) (List.range n) ?_ rfl (by simp; omega) (fun i hi => ?_) ?_
    · simp_arith []
    · rcases hc with rfl | rfl <;> simp_arith [ix_lI (Nat.zero_le 1) (List.mem_range.mp hj), ix_tI (List.mem_range.mp hj), forall_const]
    · simp_arith [filter_tt, lc_int, dSum_int]
      rfl
  simp_arith [filter_tt, lc_int]
  have h1 : ∀ x ∈ (List.range n).map (fun i => sumN n (f i)) ++ (List.range n).map (fun j => sumN n fun i => f i j), x = t := fun x hx => by
    rcases List.mem_append.mp hx with hx | hx
    · obtain ⟨i, hi, rfl⟩ := List.mem_map.mp hx
      exact b.row i (List.mem_range.mp hi)
    · obtain ⟨i, hi, rfl⟩ := List.mem_map.mp hx
      exact b.col i (List.mem_range.mp hi)
  have h2 := nub_const t _ h1
  simp_arith [cat_ints, List.length_map, List.length_range]
  rw [if_pos (by omega)]
  simp_arith []
  have h3 := dLenSet_ints ((List.range n).map (fun i => sumN n (f i)) ++ (List.range n).map (fun j => sumN n fun i => f i j)) (by simp; omega)
  unfold lI at h3
  simp_arith [h3, gt_int]
  rw [if_neg (by simp; omega)]
  simp_arith [slV]
  rw [cut1, ← List.map_take, dSum_int]
  simp_arith []
  cases n with
  | zero => exact ⟨by decide, rfl⟩
  | succ n =>
    refine ⟨by decide, ?_⟩
    rw [if_neg (by omega), List.range_succ_eq_map]
    simp only [List.map_cons, List.cons_append, List.take_succ_cons, List.take_zero, List.sum_cons, List.sum_nil, Int.add_zero]
    rw [b.row 0 (by omega)]

end VL

set_option Elab.async false
set_option linter.all false
set_option autoImplicit false
set_option maxRecDepth 100000
set_option maxHeartbeats 4000000
namespace VL
open PySem PySem.Spec L2
open PyProof.Rows hiding St
local macro_rules
  | `(tactic| simp_arith [$ts,*]) => `(tactic| simp only [↓w_ok, ↓w_err, ↓w_stuck, ↓w_if, ↓w_gD, ↓w_gV, ↓w_gOp, ↓w_gBool, ↓w_gCons, ↓w_gLst, ↓w_gTup, ↓w_gApp, ↓w_gApp1, ↓w_gNew1, ↓w_gOpV, ↓w_gIx, ↓w_gPart_n, ↓w_gPart_s, ↓w_gSl, ↓w_gNew2, ↓w_gCatT, ↓w_gTupOf, ↓w_gSeq, ↓w_gAnd, ↓w_gOr, ↓w_gNot, ↓w_gAndV, ↓w_gOrV, ↓w_gNotV, ↓w_gIfE, ↓w_gTru, ↓w_gThen, ↓w_gDrop, ↓w_gRet, ↓w_gIfS, ↓w_gSet, ↓w_gAsg, ↓w_gFor, ↓w_gArV, ↓w_gCall, ↓w_gCallP, ↓w_gLenSet, ↓w_gRaise, ↓w_gIt, ↓w_gEnum, ↓w_gLRange, ↓w_gArIo, ↓w_gIxN, ↓w_gApd, ↓w_gPopAt, ↓w_gSetIx, ↓w_gDPut, ↓w_gNeg, ↓w_gTRange, ↓w_gEnumS, ↓w_gDIx, ↓w_gDGet2, ↓w_gBest, ↓w_gLend, ↓w_gFzS, ↓w_gAug, ↓w_gExtV, ↓w_fn, ↓w_loop_c, loop_n,
      Sl.wipe, wipeFrom, List.contains_cons, List.contains_nil, Nat.reduceBEq, Nat.reduceAdd, Nat.zero_add, beq_self_eq_true, seqV_t, seqV_l0, seqV_l1, u_gWalk, u_gVar, u_gC, u_gNil, u_gBor, u_gMov, u_gFrz, u_gYes, u_gNext, u_gBreak, u_gCont, u_gRetN, u_gArN, u_gPop, u_gDnewK, u_gDnewT, u_gListKeys, u_gRev, u_gaName, u_gaNil, u_gaCons, u_gaTup,
      put_0, put_s, List.getElem?_cons_zero, List.getElem?_cons_succ, List.cons_append, List.nil_append, List.replicate_succ, List.replicate_zero, keep_0, keep_f, keep_t, arg_n, arg_v, arg_io, allV_n, allV_v, okIo_n, okIo_v, okIo_i, idxIo_n, idxIo_v, idxIo_i, backSl, backFrom, Option.isNone_none, Option.isNone_some, Option.map_none, Option.map_some, lev_0, lev_1, lineOk,
      hI_int, hB_int, Bool.not_true, Bool.not_false, Bool.and_true, Bool.and_false, Bool.true_and, Bool.false_and, Bool.or_true, Bool.or_false, Bool.true_or, Bool.false_or, if_true, if_false, eq_self, true_and, and_true, Bool.false_eq_true, List.length_cons, List.length_nil, Nat.le_add_left, D.atom, itemsV, $ts,*])
/-! the choices of least_permutation -/
def chs (n : Nat) (f : Nat → Nat → Int) : Nat → List (List Int)
  | 0 => [[]]
  | k + 1 => (chs n f k).flatMap fun p => ((List.range n).filter fun j : Nat => decide (0 < f k j) && !decide ((j : Int) ∈ p)).map fun j : Nat => p ++ [(j : Int)]
/-- the first k places, without a 0 -/
def Pick (n k : Nat) (f : Nat → Nat → Int) (s : Nat → Nat) : Prop := (∀ i, i < k → s i < n ∧ 0 < f i (s i)) ∧ ∀ i j, i < k → j < k → s i = s j → i = j
def rowP (k : Nat) (s : Nat → Nat) : List Int := rowN k fun i => (s i : Nat)
theorem rowP_succ (k : Nat) (s : Nat → Nat) : rowP (k + 1) s = rowP k s ++ [((s k : Nat) : Int)] := by simp [rowP, rowN, List.range_succ]
theorem rowP_mem {k : Nat} {s : Nat → Nat} {x : Int} : x ∈ rowP k s ↔ ∃ i, i < k ∧ ((s i : Nat) : Int) = x := by
  simp [rowP, rowN, List.mem_map, List.mem_range]
theorem chs_good (n : Nat) (f : Nat → Nat → Int) : ∀ k p, p ∈ chs n f k → ∃ s, p = rowP k s ∧ Pick n k f s
  | 0, p, h => by
    have e : p = [] := by simpa [chs] using h
    exact ⟨fun _ => 0, by rw [e]; rfl, fun i hi => by omega, fun i j hi => by omega⟩
  | k + 1, p, h => by
    simp only [chs, List.mem_flatMap, List.mem_map, List.mem_filter, List.mem_range, Bool.and_eq_true, Bool.not_eq_true', decide_eq_true_eq, decide_eq_false_iff_not] at h
    obtain ⟨q, hq, j, ⟨hj, h1, h2⟩, rfl⟩ := h
    obtain ⟨s, rfl, s1, s2⟩ := chs_good n f k q hq
    have e : rowP k (fun i => if i = k then j else s i) = rowP k s := rowN_congr fun i hi => by
      simp only []
      rw [if_neg (by omega)]
    refine ⟨fun i => if i = k then j else s i, ?_, fun i hi => ?_, fun a b ha hb e' => ?_⟩
    · rw [rowP_succ, e]; simp
    · by_cases hik : i = k
      · subst hik; simp only [if_true]; exact ⟨hj, h1⟩
      · simp only [if_neg hik]; exact s1 i (by omega)
    · by_cases hak : a = k <;> by_cases hbk : b = k
      · omega
      · simp only [if_pos hak, if_neg hbk] at e'
        exact absurd (rowP_mem.mpr ⟨b, by omega, by rw [e']⟩) h2
      · simp only [if_neg hak, if_pos hbk] at e'
        exact absurd (rowP_mem.mpr ⟨a, by omega, by rw [e']⟩) h2
      · simp only [if_neg hak, if_neg hbk] at e'
        exact s2 a b (by omega) (by omega) e'
theorem chs_full (n : Nat) (f : Nat → Nat → Int) (s : Nat → Nat) : ∀ k, Pick n k f s → rowP k s ∈ chs n f k
  | 0, _ => by simp [chs, rowP, rowN]
  | k + 1, ⟨s1, s2⟩ => by
    have ih := chs_full n f s k ⟨fun i hi => s1 i (by omega), fun i j hi hj => s2 i j (by omega) (by omega)⟩
    simp only [chs, List.mem_flatMap, List.mem_map, List.mem_filter, List.mem_range, Bool.and_eq_true, Bool.not_eq_true', decide_eq_true_eq, decide_eq_false_iff_not]
    refine ⟨_, ih, s k, ⟨(s1 k (by omega)).1, (s1 k (by omega)).2, fun h => ?_⟩, (rowP_succ k s).symm⟩
    obtain ⟨i, hi, e⟩ := rowP_mem.mp h
    have := s2 i k (by omega) (by omega) (by omega)
    omega
theorem flat_len {α β : Type} (L : List α) (g : α → List β) (m : Nat) (h : ∀ a ∈ L, (g a).length ≤ m) : (L.flatMap g).length ≤ L.length * m := by
  induction L with
  | nil => simp
  | cons a L ih =>
    have h1 := h a (by simp)
    have h2 := ih fun b hb => h b (by simp [hb])
    simp only [List.flatMap_cons, List.length_append, List.length_cons, Nat.add_mul, Nat.one_mul] at *
    omega
theorem step_len (n k : Nat) (f : Nat → Nat → Int) (p : List Int) : (((List.range n).filter fun j : Nat => decide (0 < f k j) && !decide ((j : Int) ∈ p)).map fun j : Nat => p ++ [(j : Int)]).length ≤ n := by
  rw [List.length_map]
  have := List.length_filter_le (fun j : Nat => decide (0 < f k j) && !decide ((j : Int) ∈ p)) (List.range n)
  rwa [List.length_range] at this
theorem chs_len (n : Nat) (f : Nat → Nat → Int) : ∀ k, (chs n f k).length ≤ n ^ k
  | 0 => by simp [chs]
  | k + 1 => by
    have h1 := flat_len (chs n f k) _ n fun p _ => step_len n k f p
    have h2 := Nat.mul_le_mul_right n (chs_len n f k)
    rw [Nat.pow_succ]
    exact Nat.le_trans h1 h2
theorem okMin_rows (L : List (List Int)) (hl : L.length ≤ 16777216) : okMin (L.map tI) = true := by
  have hd : ∀ L : List (List Int), PyData.depthAll (D.pyL (L.map tI)) ≤ 60 := fun L => by
    induction L with
    | nil => simp [D.pyL, PyData.depthAll]
    | cons a L ih =>
      have := depthAll_ints a
      simp only [List.map_cons, D.pyL, PyData.depthAll, py_tI, PyData.depth]
      omega
  have hp : ∀ L : List (List Int), D.plainL (L.map tI) = true := fun L => by
    induction L with
    | nil => rfl
    | cons a L ih => simp only [List.map_cons, D.plainL, plain_tI, ih, Bool.and_self]
  simp only [okMin, lineOk, List.length_map, hl, decide_true, Bool.true_and, Bool.and_eq_true, hp L, List.all_map, List.all_eq_true, Function.comp, decide_eq_true_eq]
  refine ⟨⟨fun x _ y _ => ?_, fun x _ => rfl⟩, hd L⟩
  rw [py_tI, py_tI, PySem.W.alike]; exact alikeAll_ints x y
theorem dMin_rows (L : List (List Int)) (hl : L.length ≤ 16777216) (hn : L ≠ []) (y : D) : ∃ p ∈ L, dMinDef (.lst (L.map tI)) y = some (tI p) := by
  cases L with
  | nil => exact absurd rfl hn
  | cons a L =>
    have h1 := okMin_rows (a :: L) hl
    simp only [List.map_cons] at h1 ⊢
    have h2 := minF_mem (L.map tI) (tI a)
    rw [← List.map_cons] at h2
    obtain ⟨p, hp, e⟩ := List.mem_map.mp h2
    exact ⟨p, hp, by simp only [dMinDef, h1, if_true, e]⟩
theorem enumD_rng {n : Nat} (g : Nat → D) : enumD ((List.range n).map g) = (List.range n).map fun j => .tup [.int (j : Nat), g j] := by
  unfold enumD
  rw [List.length_map, List.length_range]
  refine List.map_congr_left fun j hj => ?_
  rw [List.getD_eq_getElem?_getD, rget _ (List.mem_range.mp hj)]; rfl
def chStep (n : Nat) (f : Nat → Nat → Int) (k : Nat) (p : List Int) : List (List Int) := ((List.range n).filter fun j : Nat => decide (0 < f k j) && !decide ((j : Int) ∈ p)).map fun j : Nat => p ++ [(j : Int)]
theorem flat_snoc {α β : Type} (q : List α) (a : α) (g : α → List β) : (q ++ [a]).flatMap g = q.flatMap g ++ g a := by simp
theorem lp_ok (K : PySem.W.Frag) (ev : Ev) {n : Nat} (hn : n ≤ 6) {f : Nat → Nat → Int} (hne : chs n f n ≠ []) :
    ∃ p ∈ chs n f n, f_least_permutation K ev [⟨false, some (0, mt lI n f)⟩] = .ok ⟨false, 0, tI p⟩ [⟨false, none⟩] := by
  have hbd : ∀ k, k ≤ n → (chs n f k).length ≤ 46656 := fun k hk => by
    have h1 := chs_len n f k
    have h2 := Nat.pow_le_pow_left hn k
    have h3 := Nat.pow_le_pow_right (n := 6) (by omega) (Nat.le_trans hk hn)
    have : (6 : Nat) ^ 6 = 46656 := by decide
    omega
  obtain ⟨p, hp, ep⟩ := dMin_rows (chs n f n) (by have := hbd n (Nat.le_refl _); omega) hne .non
  refine ⟨p, hp, ?_⟩
  apply w_eq
  unfold f_least_permutation
  simp_arith []
  unfold g_least_permutation
  simp_arith [mt]
  refine w_loopN (fun i => lI (rowN n (f i))) (fun k S => ∃ v2 v3 v4, S = [⟨false, some (0, mt lI n f)⟩, ⟨false, some (0, .lst ((chs n f k).map tI))⟩, ⟨false, v2⟩, ⟨false, v3⟩, ⟨false, v4⟩, ⟨false, none⟩, ⟨false, none⟩]) ⟨none, none, none, rfl⟩ (fun k S hk hS => ?_) (fun S hS => ?_)
  · obtain ⟨v2, v3, v4, rfl⟩ := hS
    simp_arith []
    rw [if_pos (by decide)]
    refine w_loop tI (fun q S => ∃ v4, S = [⟨false, some (0, mt lI n f)⟩, ⟨false, some (0, .lst ((chs n f k).map tI))⟩, ⟨false, some (0, lI (rowN n (f k)))⟩, ⟨false, some (1, .lst ((q.flatMap (chStep n f k)).map tI))⟩, ⟨false, v4⟩, ⟨false, none⟩, ⟨false, none⟩]) (pre := []) ⟨v4, rfl⟩ (fun q a r S he hS => ?_) (fun S hS => ?_)
    · obtain ⟨v4, rfl⟩ := hS
      have hq : q.length ≤ 46656 := by
        have h1 := congrArg List.length he
        have h2 := hbd k (by omega)
        simp at h1
        omega
      have ha : a.length ≤ 6 := by
        obtain ⟨s, rfl, _⟩ := chs_good n f k a (by
          have : a ∈ [] ++ chs n f k := by rw [he]; simp
          simpa using this)
        rw [rowP, rowN_len]; omega
      have hql : (q.flatMap (chStep n f k)).length ≤ 46656 * 6 := Nat.le_trans (flat_len q _ n fun p _ => step_len n k f p) (Nat.mul_le_mul hq hn)
      have hal : (chStep n f k a).length ≤ 6 := Nat.le_trans (step_len n k f a) hn
      simp_arith []
      refine w_lc (fun j : Nat => .tup [.int (j : Nat), .int (f k j)]) (fun j => decide (0 < f k j) && !decide ((j : Int) ∈ a)) (fun j => tI (a ++ [(j : Int)])) (List.range n) ?_ (by rfl) (by simp; omega) (fun j hj => ?_) ?_
      · rw [lI_row]
        simp_arith [enumD_rng]
      · simp_arith [gt_int, tI, dIn_tup]
        rw [if_pos (show decide (1 ≤ 16777216) = true by decide), if_pos (show decide ((List.map D.int a ++ [D.int ↑j]).length ≤ 16777216) = true by simp; omega)]
        by_cases h1 : 0 < f k j <;> simp [h1]
      · simp_arith []
        have e1 : (List.map (fun j : Nat => tI (a ++ [(j : Int)])) (List.filter (fun j : Nat => decide (0 < f k j) && !decide ((j : Int) ∈ a)) (List.range n))) = (chStep n f k a).map tI := by
          simp [chStep, List.map_map, Function.comp_def]
        rw [e1, if_pos (by simp only [List.length_map, decide_eq_true_eq]; omega)]
        exact ⟨_, by rw [flat_snoc, List.map_append]⟩
    · obtain ⟨v4, rfl⟩ := hS
      simp_arith []
      exact ⟨_, _, _, rfl⟩
  · obtain ⟨v2, v3, v4, rfl⟩ := hS
    simp_arith [ep]
    decide

end VL

set_option Elab.async false
set_option linter.all false
set_option autoImplicit false
set_option maxRecDepth 100000
set_option maxHeartbeats 4000000
namespace VL
open PySem PySem.Spec L2
open PyProof.Rows hiding St
local macro_rules
  | `(tactic| simp_arith [$ts,*]) => `(tactic| simp only [↓w_ok, ↓w_err, ↓w_stuck, ↓w_if, ↓w_gD, ↓w_gV, ↓w_gOp, ↓w_gBool, ↓w_gCons, ↓w_gLst, ↓w_gTup, ↓w_gApp, ↓w_gApp1, ↓w_gNew1, ↓w_gOpV, ↓w_gIx, ↓w_gPart_n, ↓w_gPart_s, ↓w_gSl, ↓w_gNew2, ↓w_gCatT, ↓w_gTupOf, ↓w_gSeq, ↓w_gAnd, ↓w_gOr, ↓w_gNot, ↓w_gAndV, ↓w_gOrV, ↓w_gNotV, ↓w_gIfE, ↓w_gTru, ↓w_gThen, ↓w_gDrop, ↓w_gRet, ↓w_gIfS, ↓w_gSet, ↓w_gAsg, ↓w_gFor, ↓w_gArV, ↓w_gCall, ↓w_gCallP, ↓w_gLenSet, ↓w_gRaise, ↓w_gIt, ↓w_gEnum, ↓w_gLRange, ↓w_gArIo, ↓w_gIxN, ↓w_gApd, ↓w_gPopAt, ↓w_gSetIx, ↓w_gDPut, ↓w_gNeg, ↓w_gTRange, ↓w_gEnumS, ↓w_gDIx, ↓w_gDGet2, ↓w_gBest, ↓w_gLend, ↓w_gFzS, ↓w_gAug, ↓w_gExtV, ↓w_fn, ↓w_loop_c, loop_n,
      Sl.wipe, wipeFrom, List.contains_cons, List.contains_nil, Nat.reduceBEq, Nat.reduceAdd, Nat.zero_add, beq_self_eq_true, seqV_t, seqV_l0, seqV_l1, u_gWalk, u_gVar, u_gC, u_gNil, u_gBor, u_gMov, u_gFrz, u_gYes, u_gNext, u_gBreak, u_gCont, u_gRetN, u_gArN, u_gPop, u_gDnewK, u_gDnewT, u_gListKeys, u_gRev, u_gaName, u_gaNil, u_gaCons, u_gaTup,
      put_0, put_s, List.getElem?_cons_zero, List.getElem?_cons_succ, List.cons_append, List.nil_append, List.replicate_succ, List.replicate_zero, keep_0, keep_f, keep_t, arg_n, arg_v, arg_io, allV_n, allV_v, okIo_n, okIo_v, okIo_i, idxIo_n, idxIo_v, idxIo_i, backSl, backFrom, Option.isNone_none, Option.isNone_some, Option.map_none, Option.map_some, lev_0, lev_1, lineOk,
      hI_int, hB_int, Bool.not_true, Bool.not_false, Bool.and_true, Bool.and_false, Bool.true_and, Bool.false_and, Bool.or_true, Bool.or_false, Bool.true_or, Bool.false_or, if_true, if_false, eq_self, true_and, and_true, Bool.false_eq_true, List.length_cons, List.length_nil, Nat.le_add_left, D.atom, itemsV, $ts,*])
/-! permutations -/
def Per (n : Nat) (s : Nat → Nat) : Prop := (∀ i, i < n → s i < n) ∧ ∀ i j, i < n → j < n → s i = s j → i = j
theorem Per.hit {n : Nat} {s : Nat → Nat} (h : Per n s) {b : Nat} (hb : b < n) : sumN n (fun a => if b = s a then 1 else 0) = 1 := by
  obtain ⟨h1, h2⟩ := h
  have le : ∀ c, sumN n (fun a => if c = s a then (1 : Int) else 0) ≤ 1 := fun c => by
    by_cases hc : ∃ a, a < n ∧ c = s a
    · obtain ⟨a0, ha, rfl⟩ := hc
      rw [sumN_congr (h := fun a => if a = a0 then 1 else 0) fun a ha' => ?_, sumN_one 1 ha]
      · exact Int.le_refl _
      · by_cases e : a = a0
        · simp [e]
        · rw [if_neg e, if_neg fun e' => e (h2 a a0 ha' ha e'.symm)]
    · rw [sumN_congr (h := fun _ => 0) fun a ha => if_neg fun e => hc ⟨a, ha, e⟩, sumN_zero]
      decide
  have tot : sumN n (fun c => sumN n fun a => if c = s a then (1 : Int) else 0) = sumN n fun _ => 1 := by
    rw [sumN_swap]
    exact sumN_congr fun a ha => sumN_one 1 (h1 a ha)
  apply Classical.byContradiction
  intro hne
  have : sumN n (fun c => sumN n fun a => if c = s a then (1 : Int) else 0) < sumN n fun _ => 1 := sumN_lt (fun c _ => le c) hb (by have := le b; omega)
  omega
theorem Pick.per {n : Nat} {f : Nat → Nat → Int} {s : Nat → Nat} (h : Pick n n f s) : Per n s := ⟨fun i hi => (h.1 i hi).1, h.2⟩
def takeP (g : Nat → Nat → Int) (s : Nat → Nat) (N : Int) : Nat → Nat → Int := fun a b => g a b - if b = s a then N else 0
theorem Bal.take {n : Nat} {t N : Int} {g : Nat → Nat → Int} {s : Nat → Nat} (b : Bal n t g) (h : Per n s) (hN : ∀ i, i < n → N ≤ g i (s i)) : Bal n (t - N) (takeP g s N) := by
  refine ⟨fun i j hi hj => ?_, fun i hi => ?_, fun j hj => ?_⟩
  · unfold takeP
    have := b.ge i j hi hj
    by_cases e : j = s i
    · rw [if_pos e, e]; have := hN i hi; omega
    · rw [if_neg e]; omega
  · show sumN n (fun j => g i j - if j = s i then N else 0) = t - N
    rw [sumN_sub, sumN_one N (h.1 i hi)]
    have := b.row i hi
    have e : sumN n (fun j => g i j) = sumN n (g i) := rfl
    omega
  · show sumN n (fun i => g i j - if j = s i then N else 0) = t - N
    rw [sumN_sub, b.col j hj, sumN_congr (h := fun i => N * if j = s i then 1 else 0) fun i _ => by by_cases e : j = s i <;> simp [e], sumN_mul, h.hit hj]
    omega
theorem Bal.zero {n : Nat} {g : Nat → Nat → Int} (b : Bal n 0 g) {i j : Nat} (hi : i < n) (hj : j < n) : g i j = 0 := by
  have h1 := b.ge i j hi hj
  apply Classical.byContradiction
  intro hne
  have : sumN n (fun _ => 0) < sumN n (g i) := sumN_lt (fun k hk => b.ge i k hi hk) hj (by omega)
  rw [sumN_zero, b.row i hi] at this
  omega
/-! parts -/
abbrev Part := List Int × Int
def pD (q : Part) : D := .tup [tI q.1, .int q.2]
def cell (ps : List Part) (i j : Nat) : Int := (ps.map fun q => if q.1[i]? = some (j : Int) then q.2 else 0).sum
theorem cell_snoc (ps : List Part) (q : Part) (i j : Nat) : cell (ps ++ [q]) i j = cell ps i j + if q.1[i]? = some (j : Int) then q.2 else 0 := by simp [cell, List.sum_append]
theorem rowP_get {n i : Nat} {s : Nat → Nat} (h : i < n) : (rowP n s)[i]? = some ((s i : Nat) : Int) := rowN_get h
structure Parts (n : Nat) (f : Nat → Nat → Int) (ps : List Part) : Prop where
  per : ∀ q ∈ ps, ∃ s, q.1 = rowP n s ∧ Per n s
  pos : ∀ q ∈ ps, 1 ≤ q.2
  nd : (ps.map (·.1)).Nodup
  sum : ∀ i j, i < n → j < n → cell ps i j = f i j
/-- under way: g is left -/
structure PartsW (n : Nat) (f g : Nat → Nat → Int) (ps : List Part) : Prop where
  per : ∀ q ∈ ps, ∃ s, q.1 = rowP n s ∧ Per n s
  pos : ∀ q ∈ ps, 1 ≤ q.2
  nd : (ps.map (·.1)).Nodup
  sum : ∀ i j, i < n → j < n → cell ps i j + g i j = f i j
  gone : ∀ q ∈ ps, ∃ i j, i < n ∧ j < n ∧ q.1[i]? = some ((j : Nat) : Int) ∧ g i j = 0
theorem PartsW.start (n : Nat) (f : Nat → Nat → Int) : PartsW n f f [] := ⟨fun _ h => by simp at h, fun _ h => by simp at h, by simp, fun i j _ _ => by simp [cell], fun _ h => by simp at h⟩
theorem PartsW.step {n : Nat} {f g : Nat → Nat → Int} {ps : List Part} {T N : Int} {s : Nat → Nat} (w : PartsW n f g ps) (b : Bal n T g) (h : Pick n n g s) (hN : ∀ i, i < n → N ≤ g i (s i)) {i0 : Nat} (h0 : i0 < n) (e0 : N = g i0 (s i0)) : PartsW n f (takeP g s N) (ps ++ [(rowP n s, N)]) := by
  have hp := h.per
  have hb := b.take hp hN
  refine ⟨fun q hq => ?_, fun q hq => ?_, ?_, fun i j hi hj => ?_, fun q hq => ?_⟩
  · rcases List.mem_append.mp hq with hq | hq
    · exact w.per q hq
    · have e : q = (rowP n s, N) := by simpa using hq
      subst e; exact ⟨s, rfl, hp⟩
  · rcases List.mem_append.mp hq with hq | hq
    · exact w.pos q hq
    · have e : q = (rowP n s, N) := by simpa using hq
      subst e; have := (h.1 i0 h0).2; show 1 ≤ N; omega
  · rw [List.map_append]
    refine List.nodup_append.mpr ⟨w.nd, by simp, fun x hx y hy e => ?_⟩
    have hy : y = rowP n s := by simpa using hy
    obtain ⟨q, hq, rfl⟩ := List.mem_map.mp hx
    obtain ⟨i, j, hi, hj, e1, e2⟩ := w.gone q hq
    have e' : q.1 = rowP n s := by rw [e, hy]
    rw [e', rowP_get hi] at e1
    have e3 : s i = j := by have := Option.some.inj e1; omega
    have := (h.1 i hi).2
    rw [e3, e2] at this
    omega
  · rw [cell_snoc, rowP_get hi]
    have := w.sum i j hi hj
    unfold takeP
    by_cases e : j = s i
    · subst e; simp; omega
    · have : ¬ (some ((s i : Nat) : Int) = some (j : Int)) := fun e' => e (by have := Option.some.inj e'; omega)
      rw [if_neg this, if_neg e]; omega
  · rcases List.mem_append.mp hq with hq | hq
    · obtain ⟨i, j, hi, hj, e1, e2⟩ := w.gone q hq
      refine ⟨i, j, hi, hj, e1, ?_⟩
      have h1 := hb.ge i j hi hj
      have : ¬ j = s i := fun e => by
        have := (h.1 i hi).2
        rw [← e, e2] at this; omega
      unfold takeP at h1 ⊢
      rw [if_neg this] at h1 ⊢
      omega
    · have e : q = (rowP n s, N) := by simpa using hq
      subst e
      exact ⟨i0, s i0, h0, (h.1 i0 h0).1, rowP_get h0, by unfold takeP; rw [if_pos rfl]; omega⟩
theorem PartsW.done {n : Nat} {f g : Nat → Nat → Int} {ps : List Part} (w : PartsW n f g ps) (b : Bal n 0 g) : Parts n f ps :=
  ⟨w.per, w.pos, w.nd, fun i j hi hj => by have := w.sum i j hi hj; have := b.zero hi hj; omega⟩
theorem bare_tI (l : List Int) : bare (tI l) = true := by
  have : ∀ l : List Int, bareL (l.map D.int) = true := fun l => by
    induction l with
    | nil => rfl
    | cons a l ih => simp [bareL, bare, ih]
  simp [tI, bare, this]

end VL

set_option Elab.async false
set_option linter.all false
set_option autoImplicit false
set_option maxRecDepth 100000
set_option maxHeartbeats 4000000
namespace VL
open PySem PySem.Spec L2
open PyProof.Rows hiding St
local macro_rules
  | `(tactic| simp_arith [$ts,*]) => `(tactic| simp only [↓w_ok, ↓w_err, ↓w_stuck, ↓w_if, ↓w_gD, ↓w_gV, ↓w_gOp, ↓w_gBool, ↓w_gCons, ↓w_gLst, ↓w_gTup, ↓w_gApp, ↓w_gApp1, ↓w_gNew1, ↓w_gOpV, ↓w_gIx, ↓w_gPart_n, ↓w_gPart_s, ↓w_gSl, ↓w_gNew2, ↓w_gCatT, ↓w_gTupOf, ↓w_gSeq, ↓w_gAnd, ↓w_gOr, ↓w_gNot, ↓w_gAndV, ↓w_gOrV, ↓w_gNotV, ↓w_gIfE, ↓w_gTru, ↓w_gThen, ↓w_gDrop, ↓w_gRet, ↓w_gIfS, ↓w_gSet, ↓w_gAsg, ↓w_gFor, ↓w_gArV, ↓w_gCall, ↓w_gCallP, ↓w_gLenSet, ↓w_gRaise, ↓w_gIt, ↓w_gEnum, ↓w_gLRange, ↓w_gArIo, ↓w_gIxN, ↓w_gApd, ↓w_gPopAt, ↓w_gSetIx, ↓w_gDPut, ↓w_gNeg, ↓w_gTRange, ↓w_gEnumS, ↓w_gDIx, ↓w_gDGet2, ↓w_gBest, ↓w_gLend, ↓w_gFzS, ↓w_gAug, ↓w_gExtV, ↓w_fn, ↓w_loop_c, loop_n,
      Sl.wipe, wipeFrom, List.contains_cons, List.contains_nil, Nat.reduceBEq, Nat.reduceAdd, Nat.zero_add, beq_self_eq_true, seqV_t, seqV_l0, seqV_l1, u_gWalk, u_gVar, u_gC, u_gNil, u_gBor, u_gMov, u_gFrz, u_gYes, u_gNext, u_gBreak, u_gCont, u_gRetN, u_gArN, u_gPop, u_gDnewK, u_gDnewT, u_gListKeys, u_gRev, u_gaName, u_gaNil, u_gaCons, u_gaTup,
      put_0, put_s, List.getElem?_cons_zero, List.getElem?_cons_succ, List.cons_append, List.nil_append, List.replicate_succ, List.replicate_zero, keep_0, keep_f, keep_t, arg_n, arg_v, arg_io, allV_n, allV_v, okIo_n, okIo_v, okIo_i, idxIo_n, idxIo_v, idxIo_i, backSl, backFrom, Option.isNone_none, Option.isNone_some, Option.map_none, Option.map_some, lev_0, lev_1, lineOk,
      hI_int, hB_int, Bool.not_true, Bool.not_false, Bool.and_true, Bool.and_false, Bool.true_and, Bool.false_and, Bool.or_true, Bool.or_false, Bool.true_or, Bool.false_or, if_true, if_false, eq_self, true_and, and_true, Bool.false_eq_true, List.length_cons, List.length_nil, Nat.le_add_left, D.atom, itemsV, $ts,*])
theorem foldl_min_spec : ∀ (ns : List Int) (n : Int), (ns.foldl min n) ∈ n :: ns ∧ ∀ y ∈ n :: ns, ns.foldl min n ≤ y
  | [], n => by simp
  | a :: ns, n => by
    obtain ⟨h1, h2⟩ := foldl_min_spec ns (min n a)
    simp only [List.foldl_cons]
    refine ⟨?_, fun y hy => ?_⟩
    · rcases List.mem_cons.mp h1 with h | h
      · rw [h]
        by_cases e : n ≤ a
        · rw [Int.min_eq_left e]; simp
        · rw [Int.min_eq_right (by omega)]; simp
      · simp [h]
    · have h3 := h2 (min n a) (by simp)
      rcases List.mem_cons.mp hy with rfl | hy
      · have := Int.min_le_left y a; omega
      · rcases List.mem_cons.mp hy with rfl | hy
        · have := Int.min_le_right n y; omega
        · exact h2 y (by simp [hy])
theorem dMin_rowN {n : Nat} (g : Nat → Int) (hn : 0 < n) : ∃ N, dMinL (.lst ((List.range n).map fun i => D.int (g i))) = some (.int N) ∧ (∀ i, i < n → N ≤ g i) ∧ ∃ i, i < n ∧ N = g i := by
  have e : D.ints ((List.range n).map fun i => D.int (g i)) = some ((List.range n).map g) := by rw [lc_int]; exact ints_map _
  cases hl : (List.range n).map g with
  | nil =>
    have := congrArg List.length hl
    simp at this; omega
  | cons a l =>
    rw [hl] at e
    obtain ⟨h1, h2⟩ := foldl_min_spec l a
    rw [← hl] at h1 h2
    refine ⟨minL (a :: l), by simp only [dMinL, e], fun i hi => h2 _ (List.mem_map.mpr ⟨i, List.mem_range.mpr hi, rfl⟩), ?_⟩
    obtain ⟨i, hi, e'⟩ := List.mem_map.mp h1
    exact ⟨i, List.mem_range.mp hi, e'.symm⟩
theorem dList_c {c : List Int → D} (hc : c = lI ∨ c = tI) (b : Bool) (l : List Int) : ∃ ds, dList (c l) = some ds ∧ D.lst ds = lI l := by
  rcases hc with rfl | rfl <;> exact ⟨_, rfl, rfl⟩
theorem ix_mt0 {b : Bool} {c : List Int → D} {n j : Nat} {f : Nat → Nat → Int} (h : j < n) : ixV ⟨b, 0, mt c n f⟩ (.int (j : Nat)) = some ⟨false, 0, c (rowN n (f j))⟩ := by
  simp only [mt, ixV, atI_rng _ h, Option.map_some, elemV, Nat.zero_le, decide_true, Bool.true_or, if_true]
theorem ix_lI0 {b : Bool} {k n j : Nat} (hk : k ≤ 1) {g : Nat → Int} (h : j < n) : ixV ⟨b, k, lI (rowN n g)⟩ (.int (j : Nat)) = some ⟨false, 0, .int (g j)⟩ := ix_lI hk h
theorem bare_int (i : Int) : bare (.int i) = true := rfl
theorem parts_ok (K : PySem.W.Frag) (ev : Ev) {c : List Int → D} (hc : c = lI ∨ c = tI) {n : Nat} {t : Int} {f : Nat → Nat → Int} (b : Bal n t f) (hn : n ≤ 6) (ht : 0 ≤ t ∧ t ≤ 1000) :
    ∃ ps, Parts n f ps ∧ ps.length ≤ 1000 ∧ f_parts_of_square K ev [⟨false, some (0, mt c n f)⟩] = .ok ⟨false, 1, .lst (ps.map pD)⟩ [⟨false, none⟩] := by
  suffices h : @Wp Vl (f_parts_of_square K ev [⟨false, some (0, mt c n f)⟩]) ⟨fun x S' => ∃ ps, Parts n f ps ∧ ps.length ≤ 1000 ∧ x = ⟨false, 1, .lst (ps.map pD)⟩ ∧ S' = [⟨false, none⟩], noE⟩ by
    cases hr : f_parts_of_square K ev [⟨false, some (0, mt c n f)⟩] with
    | stuck => rw [hr] at h; simp only [w_stuck] at h
    | err a w s => rw [hr] at h; simp only [w_err] at h; exact h.elim
    | ok x s =>
      rw [hr] at h
      simp only [w_ok] at h
      obtain ⟨ps, h1, h2, rfl, rfl⟩ := h
      exact ⟨ps, h1, h2, rfl⟩
  unfold f_parts_of_square
  simp_arith []
  unfold g_parts_of_square
  simp_arith [argSl]
  refine w_to (cs_ok K ev hc b (by omega)) ?_
  simp_arith [mt, dLen_lst, List.length_map, List.length_range, gt_int]
  rw [if_neg (by simp; omega)]
  refine w_lcO (fun i => c (rowN n (f i))) (fun i => lI (rowN n (f i))) (List.range n) ?_ (by rfl) (by simp; omega) (fun i hi => ?_) ?_
  · simp_arith []
  · rcases hc with rfl | rfl <;> simp_arith [lI, tI, dList]
  simp_arith []
  rw [if_pos (by decide)]
  have b0 : Bal n (if n = 0 then 0 else t) f := by
    by_cases h0 : n = 0
    · subst h0; exact ⟨fun i j hi => by omega, fun i hi => by omega, fun i hi => by omega⟩
    · rw [if_neg h0]; exact b
  have t0 : 0 ≤ (if n = 0 then 0 else t) ∧ (if n = 0 then 0 else t) ≤ 1000 := by by_cases h0 : n = 0 <;> simp [h0] <;> omega
  generalize hT : (if n = 0 then 0 else t) = T0 at b0 t0
  refine w_while (fun m S => ∃ (T : Int) (g : Nat → Nat → Int) (ps : List Part) (w4 w5 w6 w7 : Option D), S = [⟨false, some (0, mt c n f)⟩, ⟨false, some (0, .int T)⟩, ⟨false, some (2, mt lI n g)⟩, ⟨false, some (1, .lst (ps.map pD))⟩, ⟨false, w4.map fun d => (0, d)⟩, ⟨false, w5.map fun d => (0, d)⟩, ⟨false, w6.map fun d => (0, d)⟩, ⟨false, w7.map fun d => (0, d)⟩, ⟨false, none⟩] ∧
    Bal n T g ∧ PartsW n f g ps ∧ 0 ≤ T ∧ (n = 0 → T = 0) ∧ (ps.length : Int) + T ≤ 1000 ∧ m = T.toNat) (fun m S hI => ?_) 4096 T0.toNat (by omega)
    ⟨T0, f, [], none, none, none, none, rfl, b0, .start n f, t0.1, fun h => by rw [if_pos h] at hT; exact hT.symm, by simp; omega, rfl⟩
  obtain ⟨T, g, ps, w4, w5, w6, w7, rfl, bT, pw, hT0, hn0, hlen, rfl⟩ := hI
  simp_arith [gt_int]
  by_cases hpos : 0 < T
  · rw [if_pos (by simpa using hpos)]
    refine ⟨(T - 1).toNat, by omega, ?_⟩
    have hnp : 0 < n := by
      rcases Nat.eq_zero_or_pos n with h | h
      · have := hn0 h; omega
      · exact h
    obtain ⟨s0, hs0⟩ := bT.perm hpos
    obtain ⟨p, hp, ep⟩ := lp_ok K ev hn (f := g) (fun e => by have := chs_full n g s0 n hs0; rw [e] at this; simp at this)
    obtain ⟨s, rfl, hs⟩ := chs_good n g n p hp
    obtain ⟨N, eN, hN, i0, hi0, eN0⟩ := dMin_rowN (fun i => g i (s i)) hnp
    refine w_to ep ?_
    simp_arith [bare_tI]
    refine w_lc (fun i : Nat => .tup [.int (i : Nat), .int (s i : Nat)]) (fun _ => true) (fun i => .int (g i (s i))) (List.range n) ?_ (by cases w6 <;> cases w7 <;> rfl) (by simp; omega) (fun i hi => ?_) ?_
    · rw [rowP, tI_row]
      simp_arith [enumD_rng]
    · have hi' := List.mem_range.mp hi
      simp_arith [ix_mt0 hi', ix_lI0 (Nat.zero_le 1) (hs.1 i hi').1, forall_const]
    · simp_arith [filter_tt, eN, bare_int]
      rw [rowP, tI_row]
      simp_arith [enumD_rng]
      refine w_loopN (fun i : Nat => .tup [.int (i : Nat), .int (s i : Nat)]) (fun k S => ∃ (w6 w7 : Option D), S = [⟨false, some (0, mt c n f)⟩, ⟨false, some (0, .int T)⟩, ⟨false, some (2, mt lI n fun a b => if a < k ∧ b = s a then g a b - N else g a b)⟩, ⟨false, some (1, .lst (ps.map pD))⟩, ⟨false, some (0, tI (rowP n s))⟩, ⟨false, some (0, .int N)⟩, ⟨false, w6.map fun d => (0, d)⟩, ⟨false, w7.map fun d => (0, d)⟩, ⟨false, none⟩]) ⟨w6, w7, ?_⟩ (fun k S hk hS => ?_) (fun S hS => ?_)
      · rw [rowP, tI_row]
        simp
      · obtain ⟨w6, w7, rfl⟩ := hS
        simp_arith []
        refine w_to (augPl_mt (n := n) (r := k) (c := s k) rfl rfl rfl rfl hk (hs.1 k hk).1) ?_
        simp_arith []
        refine ⟨some (.int (k : Nat)), some (.int (s k : Nat)), ?_⟩
        simp only [Option.map_some]
        suffices e1 : ∀ a b', a < n → b' < n → (if a = k ∧ b' = s k then (if k < k then g k (s k) - N else g k (s k)) - N else if a < k ∧ b' = s a then g a b' - N else g a b') = if a < k + 1 ∧ b' = s a then g a b' - N else g a b' from by
          exact congrArg (fun m => [⟨false, some (0, mt c n f)⟩, ⟨false, some (0, .int T)⟩, ⟨false, some (2, m)⟩, ⟨false, some (1, .lst (ps.map pD))⟩, ⟨false, some (0, tI (rowP n s))⟩, ⟨false, some (0, .int N)⟩, ⟨false, some (0, .int (k : Nat))⟩, ⟨false, some (0, .int (s k : Nat))⟩, (⟨false, none⟩ : Cell)]) (mt_congr (c := lI) e1)
        intro a b' ha hb'
        by_cases h1 : a = k ∧ b' = s k
        · rw [if_pos h1, if_neg (by omega), if_pos ⟨by omega, by rw [h1.2, h1.1]⟩, h1.1, h1.2]
        · rw [if_neg h1]
          by_cases h2 : a < k ∧ b' = s a
          · rw [if_pos h2, if_pos ⟨by omega, h2.2⟩]
          · rw [if_neg h2, if_neg fun h3 => ?_]
            by_cases h4 : a = k
            · exact h1 ⟨h4, by rw [h3.2, h4]⟩
            · exact h2 ⟨by omega, h3.2⟩
      · obtain ⟨w6, w7, rfl⟩ := hS
        simp_arith []
        rw [if_pos (show decide (2 ≤ 16777216) = true by decide), if_pos (by simp; omega)]
        have hN1 : 1 ≤ N := by have := (hs.1 i0 hi0).2; omega
        have hNT : N ≤ T := by
          have h1 := bT.row i0 hi0
          have h2 : sumN n (fun j => if j = s i0 then N else 0) ≤ sumN n (g i0) := sumN_le fun j hj => by
            by_cases e : j = s i0
            · rw [if_pos e, e, eN0]; exact Int.le_refl _
            · rw [if_neg e]; exact bT.ge i0 j hi0 hj
          rw [sumN_one N (hs.1 i0 hi0).1] at h2
          omega
        refine ⟨(T - N).toNat, by omega, T - N, takeP g s N, ps ++ [(rowP n s, N)], some (tI (rowP n s)), some (.int N), w6, w7, ?_, bT.take hs.per hN, pw.step bT hs hN hi0 eN0, by omega, fun h => by omega, by simp; omega, rfl⟩
        have e2 : mt lI n (fun a b => if a < n ∧ b = s a then g a b - N else g a b) = mt lI n (takeP g s N) := mt_congr fun a b' ha _ => by
          unfold takeP
          by_cases e : b' = s a
          · rw [if_pos ⟨ha, e⟩, if_pos e]
          · rw [if_neg fun h => e h.2, if_neg e]; omega
        rw [e2, List.map_append]
        rfl
  · have e0 : T = 0 := by omega
    subst e0
    rw [if_neg (by decide)]
    exact ⟨by decide, ps, pw.done bT, by omega, rfl⟩

end VL

set_option Elab.async false
set_option linter.all false
set_option autoImplicit false
set_option maxRecDepth 100000
set_option maxHeartbeats 4000000
namespace VL
open PySem PySem.Spec L2
open PyProof.Rows hiding St
local macro_rules
  | `(tactic| simp_arith [$ts,*]) => `(tactic| simp only [↓w_ok, ↓w_err, ↓w_stuck, ↓w_if, ↓w_gD, ↓w_gV, ↓w_gOp, ↓w_gBool, ↓w_gCons, ↓w_gLst, ↓w_gTup, ↓w_gApp, ↓w_gApp1, ↓w_gNew1, ↓w_gOpV, ↓w_gIx, ↓w_gPart_n, ↓w_gPart_s, ↓w_gSl, ↓w_gNew2, ↓w_gCatT, ↓w_gTupOf, ↓w_gSeq, ↓w_gAnd, ↓w_gOr, ↓w_gNot, ↓w_gAndV, ↓w_gOrV, ↓w_gNotV, ↓w_gIfE, ↓w_gTru, ↓w_gThen, ↓w_gDrop, ↓w_gRet, ↓w_gIfS, ↓w_gSet, ↓w_gAsg, ↓w_gFor, ↓w_gArV, ↓w_gCall, ↓w_gCallP, ↓w_gLenSet, ↓w_gRaise, ↓w_gIt, ↓w_gEnum, ↓w_gLRange, ↓w_gArIo, ↓w_gIxN, ↓w_gApd, ↓w_gPopAt, ↓w_gSetIx, ↓w_gDPut, ↓w_gNeg, ↓w_gTRange, ↓w_gEnumS, ↓w_gDIx, ↓w_gDGet2, ↓w_gBest, ↓w_gLend, ↓w_gFzS, ↓w_gAug, ↓w_gExtV, ↓w_fn, ↓w_loop_c, loop_n,
      Sl.wipe, wipeFrom, List.contains_cons, List.contains_nil, Nat.reduceBEq, Nat.reduceAdd, Nat.zero_add, beq_self_eq_true, seqV_t, seqV_l0, seqV_l1, u_gWalk, u_gVar, u_gC, u_gNil, u_gBor, u_gMov, u_gFrz, u_gYes, u_gNext, u_gBreak, u_gCont, u_gRetN, u_gArN, u_gPop, u_gDnewK, u_gDnewT, u_gListKeys, u_gRev, u_gaName, u_gaNil, u_gaCons, u_gaTup,
      put_0, put_s, List.getElem?_cons_zero, List.getElem?_cons_succ, List.cons_append, List.nil_append, List.replicate_succ, List.replicate_zero, keep_0, keep_f, keep_t, arg_n, arg_v, arg_io, allV_n, allV_v, okIo_n, okIo_v, okIo_i, idxIo_n, idxIo_v, idxIo_i, backSl, backFrom, Option.isNone_none, Option.isNone_some, Option.map_none, Option.map_some, lev_0, lev_1, lineOk,
      hI_int, hB_int, Bool.not_true, Bool.not_false, Bool.and_true, Bool.and_false, Bool.true_and, Bool.false_and, Bool.or_true, Bool.or_false, Bool.true_or, Bool.false_or, if_true, if_false, eq_self, true_and, and_true, Bool.false_eq_true, List.length_cons, List.length_nil, Nat.le_add_left, D.atom, itemsV, $ts,*])
theorem dEq_self {d : D} (h : d.plain = true) (hd : d.py.depth ≤ 60) (neg : Bool) : dEq neg d d = some (.bl (!neg)) := by
  have h1 : dEqB d d = true := PySem.SeqAt.eqv_refl_plain _ (D.py_plain d h)
  simp only [dEq, okEq, h, Bool.true_and, Nat.min_self, decide_eq_true hd, if_true, h1]
  cases neg <;> rfl
theorem plain_all {α : Type} (c : α → D) (L : List α) (h : ∀ a ∈ L, (c a).plain = true) : D.plainL (L.map c) = true := by
  rw [plainL_all, List.all_map, List.all_eq_true]; exact h
theorem depth_all {α : Type} (c : α → D) (m : Nat) : ∀ (L : List α), (∀ a ∈ L, (c a).py.depth ≤ m) → PyData.depthAll (D.pyL (L.map c)) ≤ m + 1
  | [], _ => by simp [D.pyL, PyData.depthAll]
  | a :: L, h => by
    have h1 := h a (by simp)
    have h2 := depth_all c m L fun b hb => h b (by simp [hb])
    simp [D.pyL, PyData.depthAll]; omega
theorem ok_lst {α : Type} (c : α → D) (m : Nat) (L : List α) (h : ∀ a ∈ L, (c a).plain = true ∧ (c a).py.depth ≤ m) : (D.lst (L.map c)).plain = true ∧ (D.lst (L.map c)).py.depth ≤ m + 2 := by
  have h1 := plain_all c L fun a ha => (h a ha).1
  have h2 := depth_all c m L fun a ha => (h a ha).2
  refine ⟨by simpa [D.plain] using h1, ?_⟩
  simp [D.py, PyData.depth]; omega
theorem ok_tI (l : List Int) : (tI l).plain = true ∧ (tI l).py.depth ≤ 3 := by
  refine ⟨plain_tI l, ?_⟩
  have := depthAll_ints l
  rw [py_tI]; simp [PyData.depth]; omega
theorem eqvAll_map {α : Type} [DecidableEq α] (c : α → D) (h : ∀ a b, PyData.eqv (c a).py (c b).py = decide (a = b)) : ∀ A B : List α, PyData.eqvAll (D.pyL (A.map c)) (D.pyL (B.map c)) = decide (A = B)
  | [], [] => by simp [D.pyL, PyData.eqvAll]
  | [], _ :: _ => by simp [D.pyL, PyData.eqvAll]
  | _ :: _, [] => by simp [D.pyL, PyData.eqvAll]
  | a :: A, b :: B => by
    simp only [List.map_cons, D.pyL, PyData.eqvAll, h, eqvAll_map c h A B, List.cons.injEq]
    by_cases h1 : a = b <;> by_cases h2 : A = B <;> simp [h1, h2]
theorem dEq_map {α : Type} [DecidableEq α] (c : α → D) (m : Nat) (hm : m ≤ 50) (h : ∀ a b, PyData.eqv (c a).py (c b).py = decide (a = b)) (hp : ∀ a, (c a).plain = true ∧ (c a).py.depth ≤ m) (neg : Bool) (A B : List α) : dEq neg (.lst (A.map c)) (.lst (B.map c)) = some (.bl (if neg then !decide (A = B) else decide (A = B))) := by
  have h1 := ok_lst c m A fun a _ => hp a
  have h2 := ok_lst c m B fun a _ => hp a
  have e : dEqB (.lst (A.map c)) (.lst (B.map c)) = decide (A = B) := by
    unfold dEqB
    simp only [D.py, PyData.eqv]
    exact eqvAll_map c h A B
  have h3 : min (D.lst (A.map c)).py.depth (D.lst (B.map c)).py.depth ≤ 60 := by have := h1.2; omega
  simp only [dEq, okEq, h1.1, h2.1, Bool.true_and, decide_eq_true h3, if_true, e]
theorem dEq_ints (neg : Bool) (A B : List Int) : dEq neg (.lst (A.map D.int)) (.lst (B.map D.int)) = some (.bl (if neg then !decide (A = B) else decide (A = B))) :=
  dEq_map D.int 1 (by decide) (fun a b => by simp [D.py, PyData.eqv]; rfl) (fun a => by simp [D.plain, D.py, PyData.depth]) neg A B
theorem ok_lI (l : List Int) : (lI l).plain = true ∧ (lI l).py.depth ≤ 3 := ok_lst D.int 1 l fun a _ => by simp [D.plain, D.py, PyData.depth]
theorem dEq_rows (neg : Bool) (A B : List (List Int)) : dEq neg (.lst (A.map lI)) (.lst (B.map lI)) = some (.bl (if neg then !decide (A = B) else decide (A = B))) :=
  dEq_map lI 3 (by decide) (fun a b => by
    simp only [lI, D.py, PyData.eqv]
    exact eqvAll_map D.int (fun a b => by simp [D.py, PyData.eqv]; rfl) a b) (fun a => ok_lI a) neg A B
theorem rangeI (n : Nat) (h : n ≤ 1000000) : dLRange [.int (n : Nat)] = some ((List.range n).map fun i : Nat => D.int (i : Nat)) := by
  simp only [dLRange]
  rw [if_pos ⟨by omega, by omega⟩, rangeD_0]
  simp
/-! what makes parts -/
def Valid (n : Nat) (q : Part) : Prop := srt q.1 = rowP n id ∧ 1 ≤ q.2
instance (n : Nat) (q : Part) : Decidable (Valid n q) := inferInstanceAs (Decidable (_ ∧ _))
structure IsParts (n : Nat) (f : Nat → Nat → Int) (ps : List Part) : Prop where
  val : ∀ q ∈ ps, Valid n q
  nd : (ps.map (·.1)).Nodup
  sum : ∀ i j, i < n → j < n → cell ps i j = f i j
theorem rowP_nd {n : Nat} {s : Nat → Nat} (h : ∀ i j, i < n → j < n → s i = s j → i = j) : (rowP n s).Nodup := by
  unfold rowP rowN
  show List.Pairwise _ _
  rw [List.pairwise_map]
  refine List.Pairwise.imp_of_mem (R := fun a b => a ≠ b) (fun {a b} ha hb hne e => hne (h a b (List.mem_range.mp ha) (List.mem_range.mp hb) (by omega))) ?_
  exact List.nodup_range
theorem Valid.per {n : Nat} {q : Part} (h : Valid n q) : ∃ s, q.1 = rowP n s ∧ Per n s := by
  have hp : q.1.Perm (rowP n id) := (srt_perm q.1).symm.trans (h.1 ▸ List.Perm.refl _)
  have hl : q.1.length = n := by rw [hp.length_eq, rowP, rowN_len]
  have hnd : q.1.Nodup := hp.nodup_iff.mpr (rowP_nd fun i j _ _ e => e)
  have hm : ∀ x ∈ q.1, ∃ i, i < n ∧ ((i : Nat) : Int) = x := fun x hx => rowP_mem.mp (hp.mem_iff.mp hx)
  have hg : ∀ i, i < n → ∃ c, c < n ∧ q.1[i]? = some ((c : Nat) : Int) := fun i hi => by
    have h1 : i < q.1.length := by omega
    obtain ⟨c, hc, e⟩ := hm q.1[i] (List.getElem_mem h1)
    exact ⟨c, hc, by rw [List.getElem?_eq_getElem h1, e]⟩
  refine ⟨fun i => ((q.1[i]?).getD 0).toNat, ?_, fun i hi => ?_, fun i j hi hj e => ?_⟩
  · apply List.ext_getElem?
    intro i
    by_cases hi : i < n
    · obtain ⟨c, hc, e⟩ := hg i hi
      rw [rowP_get hi, e]; simp
    · rw [List.getElem?_eq_none (by omega), List.getElem?_eq_none (by rw [rowP, rowN_len]; omega)]
  · obtain ⟨c, hc, e⟩ := hg i hi
    simp only [e]; simpa using hc
  · obtain ⟨c, hc, e1⟩ := hg i hi
    obtain ⟨d, hd, e2⟩ := hg j hj
    simp only [e1, e2, Option.getD_some, Int.toNat_natCast] at e
    subst e
    exact (List.getElem?_inj (by omega) hnd).mp (by rw [e1, e2])
theorem Per.valid {n : Nat} {s : Nat → Nat} (h : Per n s) : srt (rowP n s) = rowP n id := by
  have e1 : srt (rowP n id) = rowP n id := by
    unfold srt
    exact List.mergeSort_of_pairwise (by
      unfold rowP rowN
      exact List.Pairwise.map _ (fun a b h => by simpa using (Nat.le_of_lt h)) List.pairwise_lt_range)
  rw [← e1, srt_eq]
  have hnd : (rowP n s).Nodup := rowP_nd h.2
  have hnd2 : (rowP n id).Nodup := rowP_nd fun i j _ _ e => e
  refine List.perm_iff_count.mpr fun x => ?_
  by_cases hx : ∃ b, b < n ∧ ((b : Nat) : Int) = x
  · obtain ⟨b, hb, rfl⟩ := hx
    have h1 := h.hit hb
    obtain ⟨a, ha, e⟩ : ∃ a, a < n ∧ b = s a := by
      apply Classical.byContradiction
      intro hn
      rw [sumN_congr (h := fun _ => 0) fun a ha => if_neg fun e => hn ⟨a, ha, e⟩, sumN_zero] at h1
      omega
    rw [hnd.count, hnd2.count, if_pos (rowP_mem.mpr ⟨a, ha, by rw [e]⟩), if_pos (show ((b : Nat) : Int) ∈ rowP n id from rowP_mem.mpr ⟨b, hb, rfl⟩)]
  · rw [hnd.count, hnd2.count, if_neg fun hm => ?_, if_neg fun hm => ?_]
    · exact hx (rowP_mem.mp hm)
    · obtain ⟨i, hi, e⟩ := rowP_mem.mp hm
      exact hx ⟨s i, h.1 i hi, e⟩
theorem Parts.is {n : Nat} {f : Nat → Nat → Int} {ps : List Part} (h : Parts n f ps) : IsParts n f ps := ⟨fun q hq => by
  obtain ⟨s, e, hs⟩ := h.per q hq
  exact ⟨by rw [e]; exact hs.valid, h.pos q hq⟩, h.nd, h.sum⟩
theorem nub_eq {α : Type} [DecidableEq α] (l : List α) : (nub l).length = l.length ↔ l.Nodup := by
  have h1 := nub_len l
  have h2 := nub_lt l
  constructor
  · intro h
    apply Classical.byContradiction
    intro hn
    have := h2.mpr hn
    omega
  · intro h
    apply Classical.byContradiction
    intro hn
    exact (h2.mp (by omega)) h

end VL

set_option Elab.async false
set_option linter.all false
set_option autoImplicit false
set_option maxRecDepth 100000
set_option maxHeartbeats 4000000
namespace VL
open PySem PySem.Spec L2
open PyProof.Rows hiding St
local macro_rules
  | `(tactic| simp_arith [$ts,*]) => `(tactic| simp only [↓w_ok, ↓w_err, ↓w_stuck, ↓w_if, ↓w_gD, ↓w_gV, ↓w_gOp, ↓w_gBool, ↓w_gCons, ↓w_gLst, ↓w_gTup, ↓w_gApp, ↓w_gApp1, ↓w_gNew1, ↓w_gOpV, ↓w_gIx, ↓w_gPart_n, ↓w_gPart_s, ↓w_gSl, ↓w_gNew2, ↓w_gCatT, ↓w_gTupOf, ↓w_gSeq, ↓w_gAnd, ↓w_gOr, ↓w_gNot, ↓w_gAndV, ↓w_gOrV, ↓w_gNotV, ↓w_gIfE, ↓w_gTru, ↓w_gThen, ↓w_gDrop, ↓w_gRet, ↓w_gIfS, ↓w_gSet, ↓w_gAsg, ↓w_gFor, ↓w_gArV, ↓w_gCall, ↓w_gCallP, ↓w_gLenSet, ↓w_gRaise, ↓w_gIt, ↓w_gEnum, ↓w_gLRange, ↓w_gArIo, ↓w_gIxN, ↓w_gApd, ↓w_gPopAt, ↓w_gSetIx, ↓w_gDPut, ↓w_gNeg, ↓w_gTRange, ↓w_gEnumS, ↓w_gDIx, ↓w_gDGet2, ↓w_gBest, ↓w_gLend, ↓w_gFzS, ↓w_gAug, ↓w_gExtV, ↓w_fn, ↓w_loop_c, loop_n,
      Sl.wipe, wipeFrom, List.contains_cons, List.contains_nil, Nat.reduceBEq, Nat.reduceAdd, Nat.zero_add, beq_self_eq_true, seqV_t, seqV_l0, seqV_l1, u_gWalk, u_gVar, u_gC, u_gNil, u_gBor, u_gMov, u_gFrz, u_gYes, u_gNext, u_gBreak, u_gCont, u_gRetN, u_gArN, u_gPop, u_gDnewK, u_gDnewT, u_gListKeys, u_gRev, u_gaName, u_gaNil, u_gaCons, u_gaTup,
      put_0, put_s, List.getElem?_cons_zero, List.getElem?_cons_succ, List.cons_append, List.nil_append, List.replicate_succ, List.replicate_zero, keep_0, keep_f, keep_t, arg_n, arg_v, arg_io, allV_n, allV_v, okIo_n, okIo_v, okIo_i, idxIo_n, idxIo_v, idxIo_i, backSl, backFrom, Option.isNone_none, Option.isNone_some, Option.map_none, Option.map_some, lev_0, lev_1, lineOk,
      hI_int, hB_int, Bool.not_true, Bool.not_false, Bool.and_true, Bool.and_false, Bool.true_and, Bool.false_and, Bool.or_true, Bool.or_false, Bool.true_or, Bool.false_or, if_true, if_false, eq_self, true_and, and_true, Bool.false_eq_true, List.length_cons, List.length_nil, Nat.le_add_left, D.atom, itemsV, $ts,*])
theorem dSorted_tI (l : List Int) (hl : l.length ≤ 16777216) : dSorted (tI l) = some ((srt l).map D.int) := dSorted_ints (.inl rfl) hl
theorem dSorted_lst (l : List Int) (hl : l.length ≤ 16777216) : dSorted (.tup (l.map D.int)) = some ((srt l).map D.int) := dSorted_ints (.inl rfl) hl
theorem rngI (n : Nat) : ((List.range n).map fun i : Nat => D.int (i : Nat)) = (rowP n id).map D.int := by simp [rowP, rowN, List.map_map, Function.comp_def]
theorem dAny_lI (l : List Int) : dAnyS (lI l) = some (.bl (l.any fun x => x != 0)) := by
  cases l with
  | nil => rfl
  | cons a l =>
    have e1 : D.bls ((a :: l).map D.int) = none := rfl
    simp only [lI, dAnyS, e1, ints_map, Option.map_some]
theorem sub_step {n k : Nat} {N : Int} {g : Nat → Nat → Int} {s : Nat → Nat} : mt lI n (fun a b => if a = k ∧ b = s k then (if k < k then g k (s k) - N else g k (s k)) - N else if a < k ∧ b = s a then g a b - N else g a b) = mt lI n fun a b => if a < k + 1 ∧ b = s a then g a b - N else g a b := mt_congr fun a b' ha hb' => by
  by_cases h1 : a = k ∧ b' = s k
  · rw [if_pos h1, if_neg (by omega), if_pos ⟨by omega, by rw [h1.2, h1.1]⟩, h1.1, h1.2]
  · rw [if_neg h1]
    by_cases h2 : a < k ∧ b' = s a
    · rw [if_pos h2, if_pos ⟨by omega, h2.2⟩]
    · rw [if_neg h2, if_neg fun h3 => ?_]
      by_cases h4 : a = k
      · exact h1 ⟨h4, by rw [h3.2, h4]⟩
      · exact h2 ⟨by omega, h3.2⟩
theorem cell_per {n i j : Nat} {s : Nat → Nat} {N : Int} (hi : i < n) : (if (rowP n s)[i]? = some ((j : Nat) : Int) then N else 0) = if j = s i then N else 0 := by
  rw [rowP_get hi]
  by_cases e : j = s i
  · subst e; simp
  · rw [if_neg e, if_neg fun e' => e (by have := Option.some.inj e'; omega)]
theorem sub_done {n : Nat} {N : Int} {f : Nat → Nat → Int} {pre : List Part} {s : Nat → Nat} : mt lI n (fun a b => if a < n ∧ b = s a then (f a b - cell pre a b) - N else f a b - cell pre a b) = mt lI n fun a b => f a b - cell (pre ++ [(rowP n s, N)]) a b := mt_congr fun a b' ha _ => by
  rw [cell_snoc, cell_per ha]
  by_cases e : b' = s a
  · rw [if_pos ⟨ha, e⟩, if_pos e]; omega
  · rw [if_neg fun h => e h.2, if_neg e]; omega
theorem judge_ok (K : PySem.W.Frag) (ev : Ev) {c : List Int → D} (hc : c = lI ∨ c = tI) {n : Nat} {t : Int} {f : Nat → Nat → Int} (b : Bal n t f) (hn : n ≤ 30) (ps : List Part) (hps : ps.length < 64) (hq : ∀ q ∈ ps, q.1.length ≤ 1000) :
    ∃ bb, (bb = true ↔ IsParts n f ps) ∧ f_judge_parts K ev [⟨false, some (0, mt c n f)⟩, ⟨false, some (0, .lst (ps.map pD))⟩] = .ok ⟨false, 0, .bl bb⟩ [⟨false, none⟩, ⟨false, none⟩] := by
  suffices h : @Wp Vl (f_judge_parts K ev [⟨false, some (0, mt c n f)⟩, ⟨false, some (0, .lst (ps.map pD))⟩]) ⟨fun x S' => ∃ bb, (bb = true ↔ IsParts n f ps) ∧ x = ⟨false, 0, .bl bb⟩ ∧ S' = [⟨false, none⟩, ⟨false, none⟩], noE⟩ by
    cases hr : f_judge_parts K ev [⟨false, some (0, mt c n f)⟩, ⟨false, some (0, .lst (ps.map pD))⟩] with
    | stuck => rw [hr] at h; simp only [w_stuck] at h
    | err a w s => rw [hr] at h; simp only [w_err] at h; exact h.elim
    | ok x s =>
      rw [hr] at h
      simp only [w_ok] at h
      obtain ⟨bb, h1, rfl, rfl⟩ := h
      exact ⟨bb, h1, rfl⟩
  unfold f_judge_parts
  simp_arith []
  unfold g_judge_parts
  simp_arith [argSl]
  refine w_to (cs_ok K ev hc b hn) ?_
  simp_arith [mt, dLen_lst, List.length_map, List.length_range]
  refine w_lcO (fun i => c (rowN n (f i))) (fun i => lI (rowN n (f i))) (List.range n) ?_ (by rfl) (by simp; omega) (fun i hi => ?_) ?_
  · simp_arith []
  · rcases hc with rfl | rfl <;> simp_arith [lI, tI, dList]
  simp_arith []
  refine w_loop pD (fun pre S => (∀ q ∈ pre, Valid n q) ∧ ∃ (w4 w5 w6 w7 : Option D), S = [⟨false, some (0, mt c n f)⟩, ⟨false, some (0, .lst (ps.map pD))⟩, ⟨false, some (0, .int (n : Nat))⟩, ⟨false, some (2, mt lI n fun i j => f i j - cell pre i j)⟩, ⟨false, w4.map fun d => (0, d)⟩, ⟨false, w5.map fun d => (0, d)⟩, ⟨false, w6.map fun d => (0, d)⟩, ⟨false, w7.map fun d => (0, d)⟩, ⟨false, none⟩]) (pre := [])
    ⟨fun _ h => by simp at h, none, none, none, none, ?_⟩ (fun pre q r S he hS => ?_) (fun S hS => ?_)
  · simp [cell, mt]
  · obtain ⟨hv, w4, w5, w6, w7, rfl⟩ := hS
    have hqm : q ∈ ps := by
      have : q ∈ [] ++ ps := by rw [he]; simp
      simpa using this
    have hql := hq q hqm
    simp_arith [pD, dSorted_tI q.1 (by omega), rangeI n (by omega), rngI, dEq_ints, lt_int]
    by_cases h1 : srt q.1 = rowP n id ∧ 1 ≤ q.2
    · obtain ⟨s, es, hs⟩ := Valid.per (q := q) h1
      rw [if_neg (by simp [h1.1]), if_neg (by simp; omega), es, rowP, tI_row]
      simp_arith [enumD_rng]
      refine w_loopN (fun i : Nat => .tup [.int (i : Nat), .int (s i : Nat)]) (fun k S => ∃ (w4 w6 w7 : Option D), S = [⟨false, some (0, mt c n f)⟩, ⟨false, some (0, .lst (ps.map pD))⟩, ⟨false, some (0, .int (n : Nat))⟩, ⟨false, some (2, mt lI n fun a b => if a < k ∧ b = s a then (f a b - cell pre a b) - q.2 else f a b - cell pre a b)⟩, ⟨false, w4.map fun d => (0, d)⟩, ⟨false, some (0, .int q.2)⟩, ⟨false, w6.map fun d => (0, d)⟩, ⟨false, w7.map fun d => (0, d)⟩, ⟨false, none⟩]) ⟨some (.tup (List.map (fun j => D.int ↑(s j)) (List.range n))), w6, w7, ?_⟩ (fun k S hk hS => ?_) (fun S hS => ?_)
      · simp
      · obtain ⟨w4, w6, w7, rfl⟩ := hS
        simp_arith []
        refine w_to (augPl_mt (n := n) (r := k) (c := s k) rfl rfl rfl rfl hk (hs.1 k hk)) ?_
        simp_arith []
        refine ⟨w4, some (.int (k : Nat)), some (.int (s k : Nat)), ?_⟩
        simp only [Option.map_some]
        have e1 := sub_step (n := n) (k := k) (N := q.2) (g := fun a b => f a b - cell pre a b) (s := s)
        rw [e1]
      · obtain ⟨w4, w6, w7, rfl⟩ := hS
        simp_arith []
        refine ⟨fun q' hq' => ?_, w4, some (.int q.2), w6, w7, ?_⟩
        · rcases List.mem_append.mp hq' with h | h
          · exact hv q' h
          · have e : q' = q := by simpa using h
            subst e; exact h1
        · have e2 := sub_done (n := n) (N := q.2) (f := f) (pre := pre) (s := s)
          have e3 : (rowP n s, q.2) = q := by rw [← es]
          rw [e3] at e2
          rw [e2]
          rfl
    · have hno : ¬ IsParts n f ps := fun hp => h1 (hp.val q hqm)
      have hfin : 2 ≤ 9 ∧ ∃ bb, (bb = true ↔ IsParts n f ps) ∧ (⟨false, 0, .bl false⟩ : Vl) = ⟨false, 0, .bl bb⟩ := ⟨by decide, false, Iff.intro (fun h => absurd h (by decide)) (fun h => absurd h hno), rfl⟩
      by_cases h2 : srt q.1 = rowP n id
      · rw [if_neg (by simp [h2]), if_pos (by
          have : ¬ 1 ≤ q.2 := fun h => h1 ⟨h2, h⟩
          simp; omega)]
        exact hfin
      · rw [if_pos (by simp [h2])]
        exact hfin
  · obtain ⟨hv, w4, w5, w6, w7, rfl⟩ := hS
    simp_arith []
    refine w_lc pD (fun _ => true) (fun q => tI q.1) ps ?_ (by cases w4 <;> cases w5 <;> rfl) (by omega) (fun q hq' => ?_) ?_
    · simp_arith []
    · simp_arith [pD, tI, forall_const]
    have hL := dLenSet_rows (ps.map (·.1)) (by rw [List.length_map]; omega)
    rw [List.map_map] at hL
    have hL' : dLenSet (.lst (ps.map fun q => tI q.1)) = some (.int (nub (ps.map (·.1))).length) := hL
    simp_arith [filter_tt, hL', dLen_lst, List.length_map, dEq_int]
    by_cases hnd : (ps.map (·.1)).Nodup
    · rw [if_neg (by
        have := (nub_eq (ps.map (·.1))).mpr hnd
        rw [List.length_map] at this
        simp [this])]
      refine w_lc (fun i => lI (rowN n fun j => f i j - cell ps i j)) (fun _ => true) (fun i => .bl ((rowN n fun j => f i j - cell ps i j).any fun x => x != 0)) (List.range n) ?_ (by rfl) (by simp; omega) (fun i hi => ?_) ?_
      · simp_arith [mt]
      · simp_arith [dAny_lI, forall_const]
      simp_arith [filter_tt, dAny_map, bare]
      refine ⟨by decide, _, ?_, rfl⟩
      rw [Bool.not_eq_true', List.any_eq_false]
      constructor
      · intro h
        refine ⟨by simpa using hv, hnd, fun i j hi hj => ?_⟩
        have h1 := h i (List.mem_range.mpr hi)
        rw [Bool.not_eq_true, List.any_eq_false] at h1
        have h2 := h1 (f i j - cell ps i j) (List.mem_map.mpr ⟨j, List.mem_range.mpr hj, rfl⟩)
        simp at h2
        omega
      · intro h i hi
        rw [Bool.not_eq_true, List.any_eq_false]
        intro x hx
        obtain ⟨j, hj, rfl⟩ := List.mem_map.mp hx
        have := h.sum i j (List.mem_range.mp hi) (List.mem_range.mp hj)
        simp; omega
    · rw [if_pos (by
        have := (nub_lt (ps.map (·.1))).mpr hnd
        rw [List.length_map] at this
        simp; omega)]
      exact ⟨by decide, false, Iff.intro (fun h => absurd h (by decide)) (fun h => absurd h.nd hnd), rfl⟩

end VL

set_option Elab.async false
set_option linter.all false
set_option autoImplicit false
set_option maxRecDepth 100000
set_option maxHeartbeats 4000000
namespace VL
open PySem PySem.Spec L2
open PyProof.Rows hiding St
local macro_rules
  | `(tactic| simp_arith [$ts,*]) => `(tactic| simp only [↓w_ok, ↓w_err, ↓w_stuck, ↓w_if, ↓w_gD, ↓w_gV, ↓w_gOp, ↓w_gBool, ↓w_gCons, ↓w_gLst, ↓w_gTup, ↓w_gApp, ↓w_gApp1, ↓w_gNew1, ↓w_gOpV, ↓w_gIx, ↓w_gPart_n, ↓w_gPart_s, ↓w_gSl, ↓w_gNew2, ↓w_gCatT, ↓w_gTupOf, ↓w_gSeq, ↓w_gAnd, ↓w_gOr, ↓w_gNot, ↓w_gAndV, ↓w_gOrV, ↓w_gNotV, ↓w_gIfE, ↓w_gTru, ↓w_gThen, ↓w_gDrop, ↓w_gRet, ↓w_gIfS, ↓w_gSet, ↓w_gAsg, ↓w_gFor, ↓w_gArV, ↓w_gCall, ↓w_gCallP, ↓w_gLenSet, ↓w_gRaise, ↓w_gIt, ↓w_gEnum, ↓w_gLRange, ↓w_gArIo, ↓w_gIxN, ↓w_gApd, ↓w_gPopAt, ↓w_gSetIx, ↓w_gDPut, ↓w_gNeg, ↓w_gTRange, ↓w_gEnumS, ↓w_gDIx, ↓w_gDGet2, ↓w_gBest, ↓w_gLend, ↓w_gFzS, ↓w_gAug, ↓w_gExtV, ↓w_fn, ↓w_loop_c, loop_n,
      Sl.wipe, wipeFrom, List.contains_cons, List.contains_nil, Nat.reduceBEq, Nat.reduceAdd, Nat.zero_add, beq_self_eq_true, seqV_t, seqV_l0, seqV_l1, u_gWalk, u_gVar, u_gC, u_gNil, u_gBor, u_gMov, u_gFrz, u_gYes, u_gNext, u_gBreak, u_gCont, u_gRetN, u_gArN, u_gPop, u_gDnewK, u_gDnewT, u_gListKeys, u_gRev, u_gaName, u_gaNil, u_gaCons, u_gaTup,
      put_0, put_s, List.getElem?_cons_zero, List.getElem?_cons_succ, List.cons_append, List.nil_append, List.replicate_succ, List.replicate_zero, keep_0, keep_f, keep_t, arg_n, arg_v, arg_io, allV_n, allV_v, okIo_n, okIo_v, okIo_i, idxIo_n, idxIo_v, idxIo_i, backSl, backFrom, Option.isNone_none, Option.isNone_some, Option.map_none, Option.map_some, lev_0, lev_1, lineOk,
      hI_int, hB_int, Bool.not_true, Bool.not_false, Bool.and_true, Bool.and_false, Bool.true_and, Bool.false_and, Bool.or_true, Bool.or_false, Bool.true_or, Bool.false_or, if_true, if_false, eq_self, true_and, and_true, Bool.false_eq_true, List.length_cons, List.length_nil, Nat.le_add_left, D.atom, itemsV, $ts,*])
theorem rep0i (k : Int) (h : 0 ≤ k) (h1 : k ≤ 1000) : dRep (.lst [.int 0]) (.int k) = some ((List.replicate k.toNat [D.int 0]).flatten) := by
  simp only [dRep]
  rw [if_pos (by simp only [decide_eq_true_eq, List.length_singleton]; omega)]
theorem rep_rng (n : Nat) : (List.replicate n [D.int 0]).flatten = (List.range n).map fun _ => D.int 0 := by
  induction n with
  | zero => rfl
  | succ n ih =>
    rw [List.range_succ, List.map_append, ← ih, List.replicate_succ']
    simp
theorem rep0 (n : Nat) (h : n ≤ 1000) : dRep (.lst [.int 0]) (.int (n : Nat)) = some ((List.range n).map fun _ => D.int 0) := by
  rw [rep0i _ (by omega) (by omega), Int.toNat_natCast, rep_rng]
theorem gRep0 (i : Nat) {S : Sl} {b : Bool} (k : Int) (h : 0 ≤ k) (h1 : k ≤ 1000) (hS : S[i]? = some ⟨b, some (0, .int k)⟩) : gNew2 true dRep (gLst (gCons (gC (.int 0)) gNil)) (gV (gVar i)) S = .ok ⟨false, 1, .lst ((List.replicate k.toNat [D.int 0]).flatten)⟩ S := by
  apply w_eq
  simp_arith [hS, rep0i k h h1]
  rw [if_pos (by decide)]
  trivial
theorem gRep0n (i n : Nat) {S : Sl} {b : Bool} (h1 : n ≤ 1000) (hS : S[i]? = some ⟨b, some (0, .int (n : Nat))⟩) : gNew2 true dRep (gLst (gCons (gC (.int 0)) gNil)) (gV (gVar i)) S = .ok ⟨false, 1, lI (rowN n fun _ => 0)⟩ S := by
  rw [gRep0 i _ (by omega) (by omega) hS, Int.toNat_natCast, rep_rng, lI_row]
theorem add_step {n k : Nat} {N : Int} {g : Nat → Nat → Int} {s : Nat → Nat} : mt lI n (fun a b => if a = k ∧ b = s k then (if k < k then g k (s k) + N else g k (s k)) + N else if a < k ∧ b = s a then g a b + N else g a b) = mt lI n fun a b => if a < k + 1 ∧ b = s a then g a b + N else g a b := mt_congr fun a b' ha hb' => by
  by_cases h1 : a = k ∧ b' = s k
  · rw [if_pos h1, if_neg (by omega), if_pos ⟨by omega, by rw [h1.2, h1.1]⟩, h1.1, h1.2]
  · rw [if_neg h1]
    by_cases h2 : a < k ∧ b' = s a
    · rw [if_pos h2, if_pos ⟨by omega, h2.2⟩]
    · rw [if_neg h2, if_neg fun h3 => ?_]
      by_cases h4 : a = k
      · exact h1 ⟨h4, by rw [h3.2, h4]⟩
      · exact h2 ⟨by omega, h3.2⟩
theorem add_done {n : Nat} {N : Int} {pre : List Part} {s : Nat → Nat} : mt lI n (fun a b => if a < n ∧ b = s a then cell pre a b + N else cell pre a b) = mt lI n fun a b => cell (pre ++ [(rowP n s, N)]) a b := mt_congr fun a b' ha _ => by
  rw [cell_snoc, cell_per ha]
  by_cases e : b' = s a
  · rw [if_pos ⟨ha, e⟩, if_pos e]
  · rw [if_neg fun h => e h.2, if_neg e]; omega
theorem rows_eq {n : Nat} {f g : Nat → Nat → Int} : ((List.range n).map fun i => rowN n (f i)) = ((List.range n).map fun i => rowN n (g i)) ↔ ∀ i j, i < n → j < n → f i j = g i j := by
  constructor
  · intro h i j hi hj
    have h1 := congrArg (fun l => l[i]?) h
    simp only [rget _ hi] at h1
    have h2 := congrArg (fun l => l[j]?) (Option.some.inj h1)
    simp only [rowN_get hj] at h2
    exact Option.some.inj h2
  · intro h
    exact List.map_congr_left fun i hi => rowN_congr fun j hj => h i j (List.mem_range.mp hi) hj
theorem dEq_mt (neg : Bool) (n : Nat) (f g : Nat → Nat → Int) : ∃ bb, (bb = true ↔ ∀ i j, i < n → j < n → f i j = g i j) ∧ dEq neg (mt lI n f) (mt lI n g) = some (.bl (if neg then !bb else bb)) := by
  refine ⟨decide (((List.range n).map fun i => rowN n (f i)) = ((List.range n).map fun i => rowN n (g i))), by rw [decide_eq_true_eq]; exact rows_eq, ?_⟩
  rw [← dEq_rows]
  simp [mt, List.map_map, Function.comp_def]
theorem isparts_ok (K : PySem.W.Frag) (ev : Ev) {n : Nat} {f : Nat → Nat → Int} (hn : n ≤ 30) (ps : List Part) (hps : ps.length < 64) (hq : ∀ q ∈ ps, q.1.length ≤ 1000) :
    ∃ bb, (bb = true ↔ IsParts n f ps) ∧ f_law_is_parts K ev [⟨false, some (0, mt lI n f)⟩, ⟨false, some (0, .lst (ps.map pD))⟩] = .ok ⟨false, 0, .bl bb⟩ [⟨false, none⟩, ⟨false, none⟩] := by
  suffices h : @Wp Vl (f_law_is_parts K ev [⟨false, some (0, mt lI n f)⟩, ⟨false, some (0, .lst (ps.map pD))⟩]) ⟨fun x S' => ∃ bb, (bb = true ↔ IsParts n f ps) ∧ x = ⟨false, 0, .bl bb⟩ ∧ S' = [⟨false, none⟩, ⟨false, none⟩], noE⟩ by
    cases hr : f_law_is_parts K ev [⟨false, some (0, mt lI n f)⟩, ⟨false, some (0, .lst (ps.map pD))⟩] with
    | stuck => rw [hr] at h; simp only [w_stuck] at h
    | err a w s => rw [hr] at h; simp only [w_err] at h; exact h.elim
    | ok x s =>
      rw [hr] at h
      simp only [w_ok] at h
      obtain ⟨bb, h1, rfl, rfl⟩ := h
      exact ⟨bb, h1, rfl⟩
  have hlen : dLen (mt lI n f) = some (.int (n : Nat)) := by simp [mt, dLen]
  unfold f_law_is_parts
  simp_arith []
  unfold g_law_is_parts
  simp_arith [argSl, hlen]
  refine w_lcO (fun i : Nat => .int (i : Nat)) (fun i => lI (rowN n fun _ => 0)) (List.range n) ?_ (by rfl) (by simp; omega) (fun i hi => ?_) ?_
  · simp_arith [range1_nat (n := n) (by omega)]
  · simp only [Sl.wipe, wipeFrom, List.contains_cons, List.contains_nil, Nat.reduceBEq, Nat.reduceAdd, Nat.zero_add, beq_self_eq_true, u_gaName, Bool.or_false, if_true, Bool.false_eq_true, if_false, List.getElem?_cons_succ, List.getElem?_cons_zero, put_0, put_s]
    exact w_to (gRep0n 2 n (by omega) rfl) rfl
  simp_arith []
  refine w_loop pD (fun pre S => (∀ q ∈ pre, Valid n q) ∧ ∃ (w4 w5 w6 : Option D), S = [⟨false, some (0, mt lI n f)⟩, ⟨false, some (0, .lst (ps.map pD))⟩, ⟨false, some (0, .int (n : Nat))⟩, ⟨false, some (2, mt lI n fun i j => cell pre i j)⟩, ⟨false, w4.map fun d => (0, d)⟩, ⟨false, w5.map fun d => (0, d)⟩, ⟨false, w6.map fun d => (0, d)⟩, ⟨false, none⟩]) (pre := [])
    ⟨fun _ h => by simp at h, none, none, none, ?_⟩ (fun pre q r S he hS => ?_) (fun S hS => ?_)
  · simp [cell, mt]
  · obtain ⟨hv, w4, w5, w6, rfl⟩ := hS
    have hqm : q ∈ ps := by
      have : q ∈ [] ++ ps := by rw [he]; simp
      simpa using this
    have hql := hq q hqm
    simp_arith [pD, dSorted_tI q.1 (by omega), rangeI n (by omega), rngI, dEq_ints, lt_int]
    by_cases h1 : srt q.1 = rowP n id ∧ 1 ≤ q.2
    · obtain ⟨s, es, hs⟩ := Valid.per (q := q) h1
      rw [if_neg (by simp [h1.1]), if_neg (by simp; omega)]
      simp_arith [range1_nat (n := n) (by omega)]
      refine w_loopN (fun i : Nat => .int (i : Nat)) (fun k S => ∃ (w6 : Option D), S = [⟨false, some (0, mt lI n f)⟩, ⟨false, some (0, .lst (ps.map pD))⟩, ⟨false, some (0, .int (n : Nat))⟩, ⟨false, some (2, mt lI n fun a b => if a < k ∧ b = s a then cell pre a b + q.2 else cell pre a b)⟩, ⟨false, some (0, tI q.1)⟩, ⟨false, some (0, .int q.2)⟩, ⟨false, w6.map fun d => (0, d)⟩, ⟨false, none⟩]) ⟨w6, ?_⟩ (fun k S hk hS => ?_) (fun S hS => ?_)
      · simp
      · obtain ⟨w6, rfl⟩ := hS
        simp_arith []
        have hix : ∀ b : Bool, ixV ⟨b, 0, tI q.1⟩ (.int (k : Nat)) = some ⟨false, 0, .int (s k : Nat)⟩ := fun b => by rw [es]; exact ix_tI hk
        refine w_to (setPl_mt (n := n) (r := k) (c := s k) (z := (if k < k ∧ s k = s k then cell pre k (s k) + q.2 else cell pre k (s k)) + q.2) rfl ?_ rfl ?_ hk (hs.1 k hk)) ?_
        · apply w_eq
          simp_arith [ix_mt2 hk, hix, ix_lI0 (Nat.le_refl 1) (hs.1 k hk)]
        · apply w_eq
          simp_arith [hix]
        · simp_arith []
          refine ⟨some (.int (k : Nat)), ?_⟩
          simp only [Option.map_some]
          have e1 := add_step (n := n) (k := k) (N := q.2) (g := fun a b => cell pre a b) (s := s)
          rw [e1]
      · obtain ⟨w6, rfl⟩ := hS
        simp_arith []
        refine ⟨fun q' hq' => ?_, some (tI q.1), some (.int q.2), w6, ?_⟩
        · rcases List.mem_append.mp hq' with h | h
          · exact hv q' h
          · have e : q' = q := by simpa using h
            subst e; exact h1
        · have e2 := add_done (n := n) (N := q.2) (pre := pre) (s := s)
          have e3 : (rowP n s, q.2) = q := by rw [← es]
          rw [e3] at e2
          rw [e2]
          rfl
    · have hno : ¬ IsParts n f ps := fun hp => h1 (hp.val q hqm)
      have hfin : 2 ≤ 8 ∧ ∃ bb, (bb = true ↔ IsParts n f ps) ∧ (⟨false, 0, .bl false⟩ : Vl) = ⟨false, 0, .bl bb⟩ := ⟨by decide, false, Iff.intro (fun h => absurd h (by decide)) (fun h => absurd h hno), rfl⟩
      by_cases h2 : srt q.1 = rowP n id
      · rw [if_neg (by simp [h2]), if_pos (by
          have : ¬ 1 ≤ q.2 := fun h => h1 ⟨h2, h⟩
          simp; omega)]
        exact hfin
      · rw [if_pos (by simp [h2])]
        exact hfin
  · obtain ⟨hv, w4, w5, w6, rfl⟩ := hS
    obtain ⟨bb, hbb, eb⟩ := dEq_mt false n (fun i j => cell ps i j) f
    simp only [Bool.false_eq_true, if_false] at eb
    simp_arith [eb]
    cases bb with
    | false =>
      simp_arith []
      exact ⟨by decide, false, Iff.intro (fun h => absurd h (by decide)) (fun h => absurd (hbb.mpr h.sum) (by decide)), rfl⟩
    | true =>
      simp_arith []
      refine w_lc pD (fun _ => true) (fun q => tI q.1) ps ?_ (by cases w4 <;> cases w5 <;> rfl) (by omega) (fun q hq' => ?_) ?_
      · simp_arith []
      · simp_arith [pD, tI, forall_const]
      have hL := dLenSet_rows (ps.map (·.1)) (by rw [List.length_map]; omega)
      rw [List.map_map] at hL
      have hL' : dLenSet (.lst (ps.map fun q => tI q.1)) = some (.int (nub (ps.map (·.1))).length) := hL
      simp_arith [filter_tt, hL', dLen_lst, List.length_map, dEq_int]
      refine ⟨by decide, _, ?_, rfl⟩
      have hnub := nub_eq (ps.map (·.1))
      rw [List.length_map] at hnub
      constructor
      · intro h
        refine ⟨by simpa using hv, hnub.mp (by simp at h; omega), hbb.mp rfl⟩
      · intro h
        have := hnub.mpr h.nd
        simp [this]

end VL

set_option Elab.async false
set_option linter.all false
set_option autoImplicit false
set_option maxRecDepth 100000
set_option maxHeartbeats 4000000
namespace VL
open PySem PySem.Spec L2
open PyProof.Rows hiding St
local macro_rules
  | `(tactic| simp_arith [$ts,*]) => `(tactic| simp only [↓w_ok, ↓w_err, ↓w_stuck, ↓w_if, ↓w_gD, ↓w_gV, ↓w_gOp, ↓w_gBool, ↓w_gCons, ↓w_gLst, ↓w_gTup, ↓w_gApp, ↓w_gApp1, ↓w_gNew1, ↓w_gOpV, ↓w_gIx, ↓w_gPart_n, ↓w_gPart_s, ↓w_gSl, ↓w_gNew2, ↓w_gCatT, ↓w_gTupOf, ↓w_gSeq, ↓w_gAnd, ↓w_gOr, ↓w_gNot, ↓w_gAndV, ↓w_gOrV, ↓w_gNotV, ↓w_gIfE, ↓w_gTru, ↓w_gThen, ↓w_gDrop, ↓w_gRet, ↓w_gIfS, ↓w_gSet, ↓w_gAsg, ↓w_gFor, ↓w_gArV, ↓w_gCall, ↓w_gCallP, ↓w_gLenSet, ↓w_gRaise, ↓w_gIt, ↓w_gEnum, ↓w_gLRange, ↓w_gArIo, ↓w_gIxN, ↓w_gApd, ↓w_gPopAt, ↓w_gSetIx, ↓w_gDPut, ↓w_gNeg, ↓w_gTRange, ↓w_gEnumS, ↓w_gDIx, ↓w_gDGet2, ↓w_gBest, ↓w_gLend, ↓w_gFzS, ↓w_gAug, ↓w_gExtV, ↓w_fn, ↓w_loop_c, loop_n,
      Sl.wipe, wipeFrom, List.contains_cons, List.contains_nil, Nat.reduceBEq, Nat.reduceAdd, Nat.zero_add, beq_self_eq_true, seqV_t, seqV_l0, seqV_l1, u_gWalk, u_gVar, u_gC, u_gNil, u_gBor, u_gMov, u_gFrz, u_gYes, u_gNext, u_gBreak, u_gCont, u_gRetN, u_gArN, u_gPop, u_gDnewK, u_gDnewT, u_gListKeys, u_gRev, u_gaName, u_gaNil, u_gaCons, u_gaTup,
      put_0, put_s, List.getElem?_cons_zero, List.getElem?_cons_succ, List.cons_append, List.nil_append, List.replicate_succ, List.replicate_zero, keep_0, keep_f, keep_t, arg_n, arg_v, arg_io, allV_n, allV_v, okIo_n, okIo_v, okIo_i, idxIo_n, idxIo_v, idxIo_i, backSl, backFrom, Option.isNone_none, Option.isNone_some, Option.map_none, Option.map_some, lev_0, lev_1, lineOk,
      hI_int, hB_int, Bool.not_true, Bool.not_false, Bool.and_true, Bool.and_false, Bool.true_and, Bool.false_and, Bool.or_true, Bool.or_false, Bool.true_or, Bool.false_or, if_true, if_false, eq_self, true_and, and_true, Bool.false_eq_true, List.length_cons, List.length_nil, Nat.le_add_left, D.atom, itemsV, $ts,*])
/-- _law_take: the deck loses its last number, or is empty and stays -/
theorem take_ok (K : PySem.W.Frag) (ev : Ev) (ns : List Int) (m : Int) (hm : 0 < m) : ∃ r ms, 0 ≤ r ∧ r < m ∧ ms.length ≤ ns.length ∧
    f_law_take K ev [⟨true, some (1, lI ns)⟩, ⟨false, some (0, .int m)⟩] = .ok (.fzn (.int r)) [⟨true, some (1, lI ms)⟩, ⟨false, none⟩] := by
  rcases List.eq_nil_or_concat ns with rfl | ⟨ms, x, rfl⟩
  · refine ⟨0, [], by omega, hm, by simp, ?_⟩
    unfold f_law_take fnSem g_law_take
    simp [gThen, gIfS, gBool, gOpV, gV, gApp1, gBor, R.bind, dLen, dEq_int, gC, gRet, keepN, lI]
  · refine ⟨x % m, ms, Int.emod_nonneg _ (by omega), Int.emod_lt_of_pos _ hm, by simp, ?_⟩
    unfold f_law_take fnSem g_law_take
    simp [gThen, gIfS, gBool, gOpV, gV, gApp1, gBor, R.bind, dLen, dEq_int, gC, gRet, keepN, lI, gNext, gOp, gApp, gCons, gNil, gD, gPop, dInt, gVar, hI, hm, Sl.put, show ¬ ((ms.length : Int) + 1 = 0) by omega]
abbrev OV := Option (Nat × D)
abbrev oi (i : Nat) : OV := some (0, .int (i : Nat))
def dkS (s : D) (v3 v4 v5 v6 v7 v8 : OV) : Sl := [⟨false, some (0, s)⟩, ⟨false, oi 60⟩, ⟨false, oi 14⟩, ⟨false, v3⟩, ⟨false, v4⟩, ⟨false, v5⟩, ⟨false, v6⟩, ⟨false, v7⟩, ⟨false, v8⟩]
abbrev ol (l : List Int) : OV := some (1, lI l)
abbrev oj (i : Int) : OV := some (0, .int i)
theorem gLenKl_eq (K : PySem.W.Frag) (a : Addr) (ns : List Int) (v3 v4 v5 v6 v7 v8 : OV) : gLenKl K 0 (dkS (.kl K a ns) v3 v4 v5 v6 v7 v8) = .ok (.int (ns.length : Nat)) (dkS (.kl K a ns) v3 v4 v5 v6 v7 v8) := by
  simp [gLenKl, dkS]
theorem loopFor_pre2 {α : Type} (c : α → D) {ga : D → Sl → Option Sl} {gb : Sl → R Out} (I : List α → Sl → Prop) : ∀ {L pre : List α} {S : Sl}, I pre S → (∀ a p q S, pre ++ L = p ++ a :: q → I p S → ∃ S1 S2, ga (c a) S = some S1 ∧ (gb S1 = .ok .nx S2 ∨ gb S1 = .ok .ct S2) ∧ I (p ++ [a]) S2) → ∃ S', loopFor ga gb (L.map c) S = .ok .nx S' ∧ I (pre ++ L) S'
  | [], pre, S, h0, _ => ⟨S, rfl, by simpa using h0⟩
  | x :: xs, pre, S, h0, h => by
    obtain ⟨S1, S2, h1, h2, h3⟩ := h x pre xs S rfl h0
    obtain ⟨S', e1, e2⟩ := loopFor_pre2 c (ga := ga) (gb := gb) I (L := xs) h3 fun a p q S ha hI => h a p q S (by rw [← ha]; simp) hI
    refine ⟨S', ?_, by simpa using e2⟩
    have e3 : loopFor ga gb ((x :: xs).map c) S = loopFor ga gb (xs.map c) S2 := by
      rcases h2 with h3 | h3 <;> simp [loopFor, h1, h3]
    rw [e3]; exact e1
abbrev ov (w : Option D) : OV := w.map fun d => (0, d)
theorem dLt_int (a b : Int) : dLt (.int a) (.int b) = some (.bl (decide (a < b))) := by first | rfl | simp [dLt]
theorem dk_cell (K : PySem.W.Frag) (a : Addr) (ns : List Int) (k : Nat) (v3 v4 : OV) (v6 : Option D) (v7 v8 : OV) :
    ∃ c, ∀ B : Sl → R Out, (gThen (gSet 6 (gV (gC (.int (0)))))
  (gThen (gIfS (gBool (gOp dLt (gVar 5) (gLenKl K 0)))
  (gSet 6 (gV (gIxKl K 0 (gVar 5))))
  gNext) B)) (dkS (.kl K a ns) v3 v4 (oi k) (ov v6) v7 v8) = B (dkS (.kl K a ns) v3 v4 (oi k) (oj c) v7 v8) := by
  have h1 : gSet 6 (gV (gC (.int 0))) (dkS (.kl K a ns) v3 v4 (oi k) (ov v6) v7 v8) = .ok .nx (dkS (.kl K a ns) v3 v4 (oi k) (oj 0) v7 v8) := rfl
  have h2 : gBool (gOp dLt (gVar 5) (gLenKl K 0)) (dkS (.kl K a ns) v3 v4 (oi k) (oj 0) v7 v8) = .ok (decide (k < ns.length)) (dkS (.kl K a ns) v3 v4 (oi k) (oj 0) v7 v8) := by
    have h3 : gVar 5 (dkS (.kl K a ns) v3 v4 (oi k) (oj 0) v7 v8) = .ok (.int (k : Nat)) (dkS (.kl K a ns) v3 v4 (oi k) (oj 0) v7 v8) := rfl
    simp [gBool, gOp, h3, gLenKl_eq, R.bind, dLt_int]
  by_cases hk : k < ns.length
  · rw [decide_eq_true hk] at h2
    refine ⟨ns[k], fun B => (gThen_nx h1).trans (gThen_nx ((gIfS_t h2).trans ?_))⟩
    have h4 : gIxKl K 0 (gVar 5) (dkS (.kl K a ns) v3 v4 (oi k) (oj 0) v7 v8) = .ok (.int ns[k]) (dkS (.kl K a ns) v3 v4 (oi k) (oj 0) v7 v8) := by
      simp [gIxKl, gVar, dkS, R.bind, atI_nat hk]
    have h5 : gV (gIxKl K 0 (gVar 5)) (dkS (.kl K a ns) v3 v4 (oi k) (oj 0) v7 v8) = .ok ⟨false, 0, .int ns[k]⟩ (dkS (.kl K a ns) v3 v4 (oi k) (oj 0) v7 v8) := by
      unfold gV; rw [h4]
      all_goals rfl
    exact (gSet_eq (v := oj 0) h5 rfl).trans rfl
  · rw [decide_eq_false hk] at h2
    exact ⟨0, fun B => (gThen_nx h1).trans (gThen_nx ((gIfS_f h2).trans rfl))⟩
theorem apd_int {S : Sl} {i : Nat} {g : Sl → R D} {l : List Int} {x : Int} {b : Bool} (hS : S[i]? = some ⟨b, some (1, lI l)⟩) (hg : g S = .ok (.int x) S) (hl : l.length < 16777216) : gDrop (gV (gApd i (gV g))) S = .ok .nx (S.put i (ol (l ++ [x]))) := by
  simp only [lI] at hS
  simp [gDrop, gV, gApd, hS, hg, R.bind, Vl.fzn, hl, ol, lI]
theorem dk_big (s : D) (ms : List Int) (hm : ms.length ≤ 100000) (x : Int) (v4 v5 v6 v8 : OV) :
    ∃ y z, gThen (gDrop (gV (gApd 3 (gV (gOp dMod (gApp dInt (gCons (gVar 7) gNil)) (gC (.int (1000003)))))))) (gSet 7 (gV (gOp dDiv (gVar 7) (gC (.int (1000003)))))) (dkS s (ol ms) v4 v5 v6 (oj x) v8) =
      .ok .nx (dkS s (ol (ms ++ [y])) v4 v5 v6 (oj z) v8) := by
  have h1 : gOp dMod (gApp dInt (gCons (gVar 7) gNil)) (gC (.int (1000003))) (dkS s (ol ms) v4 v5 v6 (oj x) v8) = .ok (.int (x % 1000003)) (dkS s (ol ms) v4 v5 v6 (oj x) v8) := by
    simp [gOp, gApp, gCons, gNil, gVar, gC, dkS, R.bind, dInt, hI]
  have h2 : gOp dDiv (gVar 7) (gC (.int (1000003))) (dkS s (ol (ms ++ [x % 1000003])) v4 v5 v6 (oj x) v8) = .ok (.int (x / 1000003)) (dkS s (ol (ms ++ [x % 1000003])) v4 v5 v6 (oj x) v8) := by
    simp [gOp, gVar, gC, dkS, R.bind, hI]
  refine ⟨x % 1000003, x / 1000003, ?_⟩
  refine (gThen_nx ((apd_int (S := dkS s (ol ms) v4 v5 v6 (oj x) v8) (i := 3) (l := ms) (x := x % 1000003) (b := false) rfl h1 (by omega)).trans rfl)).trans ?_
  refine (gSet_eq (k := 0) (d := .int (x / 1000003)) (v := oj x) (S1 := dkS s (ol (ms ++ [x % 1000003])) v4 v5 v6 (oj x) v8) ?_ rfl).trans rfl
  unfold gV
  rw [show Sl.put (dkS s (ol ms) v4 v5 v6 (oj x) v8) 3 (ol (ms ++ [x % 1000003])) = dkS s (ol (ms ++ [x % 1000003])) v4 v5 v6 (oj x) v8 from rfl, h2]
  all_goals rfl
theorem gIt_eq {h : List D → Option (List D)} {ga : Sl → R (List D)} {ds xs : List D} {S S1 : Sl} (h1 : ga S = .ok ds S1) (h2 : h ds = some xs) : gIt h ga S = .ok xs S1 := by
  unfold gIt
  simp only [h1, R.bind, h2]
theorem gCons1 {g : Sl → R D} {S S1 : Sl} {d : D} (hg : g S = .ok d S1) : gCons g gNil S = .ok [d] S1 := by
  unfold gCons gNil
  simp only [hg, R.bind]
theorem dRange1_nat {n : Nat} (h : n ≤ 1000000) : dRange1 [.int (n : Nat)] = some ((List.range n).map fun i : Nat => D.int (i : Nat)) := by
  have h1 : -(2 ^ 62) ≤ (n : Int) ∧ (n : Int) < 2 ^ 62 := by
    have : (2 : Int) ^ 62 = 4611686018427387904 := by decide
    rw [this]; omega
  simp only [dRange1]
  rw [if_pos h1, Int.toNat_natCast, rangeD_map]
theorem gIt_range {n : Nat} (h : n ≤ 1000000) {g : Sl → R D} {S S1 : Sl} (hg : g S = .ok (.int (n : Nat)) S1) : gIt dRange1 (gCons g gNil) S = .ok ((List.range n).map fun i : Nat => D.int (i : Nat)) S1 :=
  gIt_eq (gCons1 hg) (dRange1_nat h)
theorem dk_bigs (s : D) (ms : List Int) (hm : ms.length ≤ 10000) (x : Int) (v4 v5 v6 : OV) (w8 : Option D) :
    ∃ ms' z w8', ms'.length = ms.length + 14 ∧ gFor (gIt dRange1 (gCons (gVar 2) gNil)) (gaName 8) (gThen (gDrop (gV (gApd 3 (gV (gOp dMod (gApp dInt (gCons (gVar 7) gNil)) (gC (.int (1000003)))))))) (gSet 7 (gV (gOp dDiv (gVar 7) (gC (.int (1000003))))))) (dkS s (ol ms) v4 v5 v6 (oj x) (ov w8)) =
      .ok .nx (dkS s (ol ms') v4 v5 v6 (oj z) (ov w8')) := by
  obtain ⟨S', h2, ms', z, w8', h3, rfl⟩ := loopFor_pre2 (c := fun k : Nat => D.int (k : Nat)) (ga := gaName 8) (gb := gThen (gDrop (gV (gApd 3 (gV (gOp dMod (gApp dInt (gCons (gVar 7) gNil)) (gC (.int (1000003)))))))) (gSet 7 (gV (gOp dDiv (gVar 7) (gC (.int (1000003)))))))
    (fun p S => ∃ ms' z w8, ms'.length = ms.length + p.length ∧ S = dkS s (ol ms') v4 v5 v6 (oj z) (ov w8)) (L := List.range 14) (pre := []) (S := dkS s (ol ms) v4 v5 v6 (oj x) (ov w8)) ⟨ms, x, w8, by simp, rfl⟩ (by
      rintro k p q S hq ⟨ms1, z, w8, h3, rfl⟩
      have hl := congrArg List.length hq
      simp at hl
      obtain ⟨y, z', hh⟩ := dk_big s ms1 (by omega) z v4 v5 v6 (oi k)
      exact ⟨_, _, rfl, .inl hh, ms1 ++ [y], z', some (.int (k : Nat)), by simp; omega, rfl⟩)
  exact ⟨ms', z, w8', by simpa using h3, (gFor_eq (gIt_range (n := 14) (by omega) rfl)).trans h2⟩
theorem dk_small (s : D) (ms : List Int) (hm : ms.length ≤ 100000) (x : Int) (hx : 0 ≤ x ∧ x < 2147483647) (j : Nat) (v5 v6 v7 : OV) :
    ∃ y z, 0 ≤ z ∧ z < 2147483647 ∧ gThen (gSet 4 (gV (gOp dMod (gApp dInt (gCons (gOp dAdd (gOp dAdd (gOp dMul (gVar 4) (gC (.int (69621)))) (gVar 8)) (gC (.int (1)))) gNil)) (gC (.int (2147483629))))))
  (gDrop (gV (gApd 3 (gV (gOp dMod (gApp dInt (gCons (gOp dDiv (gVar 4) (gC (.int (5)))) gNil)) (gC (.int (1000003)))))))) (dkS s (ol ms) (oj x) v5 v6 v7 (oi j)) =
      .ok .nx (dkS s (ol (ms ++ [y])) (oj z) v5 v6 v7 (oi j)) := by
  have hc : cMul x 69621 = true := by simp [cMul]
  have h1 : gV (gOp dMod (gApp dInt (gCons (gOp dAdd (gOp dAdd (gOp dMul (gVar 4) (gC (.int (69621)))) (gVar 8)) (gC (.int (1)))) gNil)) (gC (.int (2147483629)))) (dkS s (ol ms) (oj x) v5 v6 v7 (oi j)) = .ok ⟨false, 0, .int ((x * 69621 + (j : Int) + 1) % 2147483629)⟩ (dkS s (ol ms) (oj x) v5 v6 v7 (oi j)) := by
    simp [gV, gOp, gApp, gCons, gNil, gVar, gC, dkS, R.bind, dInt, hI, hc]
  have h2 : ∀ z, gOp dMod (gApp dInt (gCons (gOp dDiv (gVar 4) (gC (.int (5)))) gNil)) (gC (.int (1000003))) (dkS s (ol ms) (oj z) v5 v6 v7 (oi j)) = .ok (.int (z / 5 % 1000003)) (dkS s (ol ms) (oj z) v5 v6 v7 (oi j)) := fun z => by
    simp [gOp, gApp, gCons, gNil, gVar, gC, dkS, R.bind, dInt, hI]
  refine ⟨(x * 69621 + (j : Int) + 1) % 2147483629 / 5 % 1000003, (x * 69621 + (j : Int) + 1) % 2147483629, Int.emod_nonneg _ (by omega), by have := Int.emod_lt_of_pos (x * 69621 + (j : Int) + 1) (show (0 : Int) < 2147483629 by omega); omega, ?_⟩
  refine (gThen_nx ((gSet_eq (v := oj x) h1 rfl).trans rfl)).trans ?_
  exact (apd_int (S := dkS s (ol ms) (oj ((x * 69621 + (j : Int) + 1) % 2147483629)) v5 v6 v7 (oi j)) (i := 3) (l := ms) (b := false) rfl (h2 _) (by omega)).trans rfl
theorem dk_smalls (s : D) (ms : List Int) (hm : ms.length ≤ 10000) (x : Int) (hx : 0 ≤ x ∧ x < 2147483647) (v5 v6 v7 : OV) (w8 : Option D) :
    ∃ ms' z w8', ms'.length = ms.length + 14 ∧ (0 ≤ z ∧ z < 2147483647) ∧ gFor (gIt dRange1 (gCons (gVar 2) gNil)) (gaName 8) (gThen (gSet 4 (gV (gOp dMod (gApp dInt (gCons (gOp dAdd (gOp dAdd (gOp dMul (gVar 4) (gC (.int (69621)))) (gVar 8)) (gC (.int (1)))) gNil)) (gC (.int (2147483629))))))
  (gDrop (gV (gApd 3 (gV (gOp dMod (gApp dInt (gCons (gOp dDiv (gVar 4) (gC (.int (5)))) gNil)) (gC (.int (1000003))))))))) (dkS s (ol ms) (oj x) v5 v6 v7 (ov w8)) =
      .ok .nx (dkS s (ol ms') (oj z) v5 v6 v7 (ov w8')) := by
  obtain ⟨S', h2, ms', z, w8', h3, h4, rfl⟩ := loopFor_pre2 (c := fun k : Nat => D.int (k : Nat)) (ga := gaName 8) (gb := gThen (gSet 4 (gV (gOp dMod (gApp dInt (gCons (gOp dAdd (gOp dAdd (gOp dMul (gVar 4) (gC (.int (69621)))) (gVar 8)) (gC (.int (1)))) gNil)) (gC (.int (2147483629))))))
  (gDrop (gV (gApd 3 (gV (gOp dMod (gApp dInt (gCons (gOp dDiv (gVar 4) (gC (.int (5)))) gNil)) (gC (.int (1000003)))))))))
    (fun p S => ∃ ms' z w8, ms'.length = ms.length + p.length ∧ (0 ≤ z ∧ z < 2147483647) ∧ S = dkS s (ol ms') (oj z) v5 v6 v7 (ov w8)) (L := List.range 14) (pre := []) (S := dkS s (ol ms) (oj x) v5 v6 v7 (ov w8)) ⟨ms, x, w8, by simp, hx, rfl⟩ (by
      rintro k p q S hq ⟨ms1, z, w8, h3, h4, rfl⟩
      have hl := congrArg List.length hq
      simp at hl
      obtain ⟨y, z', h5, h6, hh⟩ := dk_small s ms1 (by omega) z h4 k v5 v6 v7
      exact ⟨_, _, rfl, .inl hh, ms1 ++ [y], z', some (.int (k : Nat)), by simp; omega, ⟨h5, h6⟩, rfl⟩)
  exact ⟨ms', z, w8', by simpa using h3, h4, (gFor_eq (gIt_range (n := 14) (by omega) rfl)).trans h2⟩
theorem dk_rest (s : D) (ms : List Int) (hm : ms.length ≤ 10000) (x : Int) (hx : 0 ≤ x ∧ x < 2147483647) (k : Nat) (c : Int) (w7 w8 : Option D) :
    ∃ ms' z w7' w8', ms'.length = ms.length + 14 ∧ (0 ≤ z ∧ z < 2147483647) ∧ (gThen (gSet 7 (gV (gApp dAbs (gCons (gVar 6) gNil))))
  (gIfS (gBool (gOp dGe (gVar 7) (gOp dPow (gC (.int (10))) (gC (.int (30))))))
  (gFor (gIt dRange1 (gCons (gVar 2) gNil)) (gaName 8)
  (gThen (gDrop (gV (gApd 3 (gV (gOp dMod (gApp dInt (gCons (gVar 7) gNil)) (gC (.int (1000003))))))))
  (gSet 7 (gV (gOp dDiv (gVar 7) (gC (.int (1000003))))))))
  (gThen (gSet 4 (gV (gOp dMod (gApp dInt (gCons (gOp dAdd (gOp dAdd (gOp dAdd (gOp dMul (gVar 4) (gC (.int (48271)))) (gOp dMul (gC (.int (2))) (gVar 7))) (gApp dInt (gCons (gOp dLt (gVar 6) (gC (.int (0)))) gNil))) (gVar 5)) gNil)) (gC (.int (2147483647))))))
  (gFor (gIt dRange1 (gCons (gVar 2) gNil)) (gaName 8)
  (gThen (gSet 4 (gV (gOp dMod (gApp dInt (gCons (gOp dAdd (gOp dAdd (gOp dMul (gVar 4) (gC (.int (69621)))) (gVar 8)) (gC (.int (1)))) gNil)) (gC (.int (2147483629))))))
  (gDrop (gV (gApd 3 (gV (gOp dMod (gApp dInt (gCons (gOp dDiv (gVar 4) (gC (.int (5)))) gNil)) (gC (.int (1000003)))))))))))))
      (dkS s (ol ms) (oj x) (oi k) (oj c) (ov w7) (ov w8)) = .ok .nx (dkS s (ol ms') (oj z) (oi k) (oj c) (ov w7') (ov w8')) := by
  generalize ha : (if c < 0 then -c else c) = r
  have h1 : gSet 7 (gV (gApp dAbs (gCons (gVar 6) gNil))) (dkS s (ol ms) (oj x) (oi k) (oj c) (ov w7) (ov w8)) = .ok .nx (dkS s (ol ms) (oj x) (oi k) (oj c) (oj r) (ov w8)) := by
    simp [gSet, gV, gApp, gCons, gNil, gVar, dkS, R.bind, dAbs, Sl.put, ha, Vl.fzn]
  have h2 : gBool (gOp dGe (gVar 7) (gOp dPow (gC (.int (10))) (gC (.int (30))))) (dkS s (ol ms) (oj x) (oi k) (oj c) (oj r) (ov w8)) = .ok (decide ((10 : Int) ^ 30 ≤ r)) (dkS s (ol ms) (oj x) (oi k) (oj c) (oj r) (ov w8)) := by
    simp [gBool, gOp, gC, gVar, dkS, R.bind, hI, hB]
  cases hb : decide ((10 : Int) ^ 30 ≤ r) with
  | true =>
    rw [hb] at h2
    obtain ⟨ms', z, w8', h3, h4⟩ := dk_bigs s ms hm r (oj x) (oi k) (oj c) w8
    exact ⟨ms', x, some (.int z), w8', h3, hx, (gThen_nx h1).trans ((gIfS_t h2).trans h4)⟩
  | false =>
    rw [hb] at h2
    generalize he : (x * 48271 + 2 * r + (if decide (c < 0) = true then 1 else 0) + (k : Int)) = e
    have hc1 : cMul x 48271 = true := by simp [cMul]
    have hc2 : cMul 2 r = true := by simp [cMul]
    have h5 : gSet 4 (gV (gOp dMod (gApp dInt (gCons (gOp dAdd (gOp dAdd (gOp dAdd (gOp dMul (gVar 4) (gC (.int (48271)))) (gOp dMul (gC (.int (2))) (gVar 7))) (gApp dInt (gCons (gOp dLt (gVar 6) (gC (.int (0)))) gNil))) (gVar 5)) gNil)) (gC (.int (2147483647))))) (dkS s (ol ms) (oj x) (oi k) (oj c) (oj r) (ov w8)) = .ok .nx (dkS s (ol ms) (oj (e % 2147483647)) (oi k) (oj c) (oj r) (ov w8)) := by
      subst he
      simp [gSet, gV, gOp, gApp, gCons, gNil, gVar, gC, dkS, R.bind, dInt, hI, hB, hc1, hc2, Sl.put, Vl.fzn]
    have hz : 0 ≤ e % 2147483647 ∧ e % 2147483647 < 2147483647 := ⟨Int.emod_nonneg _ (by omega), Int.emod_lt_of_pos _ (by omega)⟩
    obtain ⟨ms', z, w8', h3, h4, h6⟩ := dk_smalls s ms hm (e % 2147483647) hz (oi k) (oj c) (oj r) w8
    exact ⟨ms', z, some (.int r), w8', h3, h4, (gThen_nx h1).trans ((gIfS_f h2).trans ((gThen_nx h5).trans h6))⟩
theorem deck_ok (K : PySem.W.Frag) (ev : Ev) (a : Addr) (ns : List Int) (h : ns.length ≤ 63) :
    ∃ ms T', f_law_deck K ev [⟨false, some (0, .kl K a ns)⟩, ⟨false, oi 60⟩, ⟨false, oi 14⟩] = .ok ⟨false, 1, lI ms⟩ T' ∧ ms.length ≤ 840 := by
  have main : ∃ ms S', g_law_deck K ev (dkS (.kl K a ns) none none none none none none) = .ok (.rt ⟨false, 1, lI ms⟩) S' ∧ 3 ≤ S'.length ∧ ms.length ≤ 840 := by
    unfold g_law_deck
    have h1 : gSet 4 (gV (gOp dAdd (gC (.int (7))) (gLenKl K 0))) (dkS (.kl K a ns) (ol []) none none none none none) = .ok .nx (dkS (.kl K a ns) (ol []) (oj (7 + ns.length)) none none none none) := by
      refine (gSet_eq (k := 0) (d := .int (7 + ns.length)) (v := none) (S1 := dkS (.kl K a ns) (ol []) none none none none none) ?_ rfl).trans rfl
      simp [gV, gOp, gC, gLenKl_eq, R.bind, hI, Vl.fzn]
    obtain ⟨S', h2, ms, z, w5, w6, w7, w8, h3, h4, rfl⟩ := loopFor_pre2 (c := fun k : Nat => D.int (k : Nat)) (ga := gaName 5) (gb := gThen (gSet 6 (gV (gC (.int (0)))))
  (gThen (gIfS (gBool (gOp dLt (gVar 5) (gLenKl K 0)))
  (gSet 6 (gV (gIxKl K 0 (gVar 5))))
  gNext)
  (gThen (gSet 7 (gV (gApp dAbs (gCons (gVar 6) gNil))))
  (gIfS (gBool (gOp dGe (gVar 7) (gOp dPow (gC (.int (10))) (gC (.int (30))))))
  (gFor (gIt dRange1 (gCons (gVar 2) gNil)) (gaName 8)
  (gThen (gDrop (gV (gApd 3 (gV (gOp dMod (gApp dInt (gCons (gVar 7) gNil)) (gC (.int (1000003))))))))
  (gSet 7 (gV (gOp dDiv (gVar 7) (gC (.int (1000003))))))))
  (gThen (gSet 4 (gV (gOp dMod (gApp dInt (gCons (gOp dAdd (gOp dAdd (gOp dAdd (gOp dMul (gVar 4) (gC (.int (48271)))) (gOp dMul (gC (.int (2))) (gVar 7))) (gApp dInt (gCons (gOp dLt (gVar 6) (gC (.int (0)))) gNil))) (gVar 5)) gNil)) (gC (.int (2147483647))))))
  (gFor (gIt dRange1 (gCons (gVar 2) gNil)) (gaName 8)
  (gThen (gSet 4 (gV (gOp dMod (gApp dInt (gCons (gOp dAdd (gOp dAdd (gOp dMul (gVar 4) (gC (.int (69621)))) (gVar 8)) (gC (.int (1)))) gNil)) (gC (.int (2147483629))))))
  (gDrop (gV (gApd 3 (gV (gOp dMod (gApp dInt (gCons (gOp dDiv (gVar 4) (gC (.int (5)))) gNil)) (gC (.int (1000003))))))))))))))) 
      (fun p S => ∃ ms z w5 w6 w7 w8, ms.length = 14 * p.length ∧ (0 ≤ z ∧ z < 2147483647) ∧ S = dkS (.kl K a ns) (ol ms) (oj z) (ov w5) (ov w6) (ov w7) (ov w8))
      (L := List.range 60) (pre := []) (S := dkS (.kl K a ns) (ol []) (oj (7 + ns.length)) none none none none) ⟨[], _, none, none, none, none, rfl, by omega, rfl⟩ (by
        rintro k p q S hq ⟨ms, z, w5, w6, w7, w8, h3, h4, rfl⟩
        have hl := congrArg List.length hq
        simp at hl
        obtain ⟨c, hc⟩ := dk_cell K a ns k (ol ms) (oj z) w6 (ov w7) (ov w8)
        obtain ⟨ms', z', w7', w8', h5, h6, h7⟩ := dk_rest (.kl K a ns) ms (by omega) z h4 k c w7 w8
        exact ⟨dkS (.kl K a ns) (ol ms) (oj z) (oi k) (ov w6) (ov w7) (ov w8), _, rfl, .inl ((hc _).trans h7), ms', z', some (.int (k : Nat)), some (.int c), w7', w8', by simp; omega, h6, rfl⟩)
    refine ⟨ms.reverse, dkS (.kl K a ns) none (oj z) (ov w5) (ov w6) (ov w7) (ov w8), ?_, by simp [dkS], by simp at h3 ⊢; omega⟩
    refine (gThen_nx (S1 := dkS (.kl K a ns) (ol []) none none none none none) rfl).trans ((gThen_nx h1).trans ((gThen_nx ((gFor_eq (gIt_range (n := 60) (by omega) rfl)).trans h2)).trans ?_))
    have hrev : gDrop (gV (gRev 3)) (dkS (.kl K a ns) (ol ms) (oj z) (ov w5) (ov w6) (ov w7) (ov w8)) = .ok .nx (dkS (.kl K a ns) (ol ms.reverse) (oj z) (ov w5) (ov w6) (ov w7) (ov w8)) := by
      simp [gDrop, gV, gRev, dkS, R.bind, Sl.put, ol, lI, List.map_reverse]
    exact (gThen_nx hrev).trans rfl
  obtain ⟨ms, S9, h9, hl9, hm⟩ := main
  exact ⟨ms, _, fnSem_rt h9 hl9, hm⟩

end VL

set_option Elab.async false
set_option linter.all false
set_option autoImplicit false
set_option maxRecDepth 100000
set_option maxHeartbeats 4000000
namespace VL
open PySem PySem.Spec L2
open PyProof.Rows hiding St
local macro_rules
  | `(tactic| simp_arith [$ts,*]) => `(tactic| simp only [↓w_ok, ↓w_err, ↓w_stuck, ↓w_if, ↓w_gD, ↓w_gV, ↓w_gOp, ↓w_gBool, ↓w_gCons, ↓w_gLst, ↓w_gTup, ↓w_gApp, ↓w_gApp1, ↓w_gNew1, ↓w_gOpV, ↓w_gIx, ↓w_gPart_n, ↓w_gPart_s, ↓w_gSl, ↓w_gNew2, ↓w_gCatT, ↓w_gTupOf, ↓w_gSeq, ↓w_gAnd, ↓w_gOr, ↓w_gNot, ↓w_gAndV, ↓w_gOrV, ↓w_gNotV, ↓w_gIfE, ↓w_gTru, ↓w_gThen, ↓w_gDrop, ↓w_gRet, ↓w_gIfS, ↓w_gSet, ↓w_gAsg, ↓w_gFor, ↓w_gArV, ↓w_gCall, ↓w_gCallP, ↓w_gLenSet, ↓w_gRaise, ↓w_gIt, ↓w_gEnum, ↓w_gLRange, ↓w_gArIo, ↓w_gIxN, ↓w_gApd, ↓w_gPopAt, ↓w_gSetIx, ↓w_gDPut, ↓w_gNeg, ↓w_gTRange, ↓w_gEnumS, ↓w_gDIx, ↓w_gDGet2, ↓w_gBest, ↓w_gLend, ↓w_gFzS, ↓w_gAug, ↓w_gExtV, ↓w_fn, ↓w_loop_c, loop_n,
      Nat.reduceEqDiff, reduceIte, Sl.wipe, wipeFrom, List.contains_cons, List.contains_nil, Nat.reduceBEq, Nat.reduceAdd, Nat.zero_add, beq_self_eq_true, seqV_t, seqV_l0, seqV_l1, u_gWalk, u_gVar, u_gC, u_gNil, u_gBor, u_gMov, u_gFrz, u_gYes, u_gNext, u_gBreak, u_gCont, u_gRetN, u_gArN, u_gPop, u_gDnewK, u_gDnewT, u_gListKeys, u_gRev, u_gaName, u_gaNil, u_gaCons, u_gaTup,
      put_0, put_s, List.getElem?_cons_zero, List.getElem?_cons_succ, List.cons_append, List.nil_append, List.replicate_succ, List.replicate_zero, keep_0, keep_f, keep_t, arg_n, arg_v, arg_io, allV_n, allV_v, okIo_n, okIo_v, okIo_i, idxIo_n, idxIo_v, idxIo_i, backSl, backFrom, Option.isNone_none, Option.isNone_some, Option.map_none, Option.map_some, lev_0, lev_1, lineOk,
      hI_int, hB_int, Bool.not_true, Bool.not_false, Bool.and_true, Bool.and_false, Bool.true_and, Bool.false_and, Bool.or_true, Bool.or_false, Bool.true_or, Bool.false_or, if_true, if_false, eq_self, true_and, and_true, Bool.false_eq_true, List.length_cons, List.length_nil, Nat.le_add_left, D.atom, itemsV, $ts,*])
theorem in63 {n : Int} (h : 0 ≤ n) (h1 : n ≤ 1000000) : decide (-(2 ^ 63) ≤ n ∧ n < 2 ^ 63) = true := by
  rw [decide_eq_true_eq]; omega
theorem popAt_I {g : Sl → R D} {S S1 : Sl} {i k k' : Nat} {b b' : Bool} {xs xs' : List D} {r : Int} (h0 : 0 ≤ r) (h1 : r < xs.length) (hl : xs.length ≤ 1000000) (hS : S[i]? = some ⟨b', some (k' + 1, .lst xs')⟩) (hg : g S = .ok (.int r) S1) (hS1 : S1[i]? = some ⟨b, some (k + 1, .lst xs)⟩) :
    ∃ d, xs[r.toNat]? = some d ∧ gPopAt i g S = .ok ⟨false, k, d⟩ (S1.put i (some (k + 1, .lst (xs.eraseIdx r.toNat)))) := by
  have hlt : r.toNat < xs.length := by omega
  refine ⟨xs[r.toNat], by simp [hlt], ?_⟩
  have e : seqIndex? r xs.length = some r.toNat := by
    unfold seqIndex?
    simp [h0]; omega
  unfold gPopAt
  rw [hS]
  simp only [hg, R.bind, hS1, in63 h0 (by omega), if_true, e, List.getElem?_eq_getElem hlt]
theorem erase_perm {α : Type} : ∀ (xs : List α) (i : Nat) (d : α), xs[i]? = some d → xs.Perm (d :: xs.eraseIdx i)
  | [], i, d, h => by simp at h
  | x :: xs, 0, d, h => by
    have : x = d := by simpa using h
    subst this; simp
  | x :: xs, i + 1, d, h => by
    have ih := erase_perm xs i d (by simpa using h)
    simp only [List.eraseIdx_cons_succ]
    exact (List.Perm.cons x ih).trans (List.Perm.swap d x _)
theorem map_erase {α β : Type} (f : α → β) : ∀ (l : List α) (i : Nat), (l.map f).eraseIdx i = (l.eraseIdx i).map f
  | [], i => by simp
  | a :: l, 0 => by simp
  | a :: l, i + 1 => by simp [map_erase f l i]
theorem order_ok (K : PySem.W.Frag) (ev : Ev) (ns : List Int) (n : Nat) (hn : n ≤ 1000) : ∃ s ms, Per n s ∧ ms.length ≤ ns.length ∧
    f_law_order K ev [⟨true, some (1, lI ns)⟩, ⟨false, some (0, .int (n : Nat))⟩] = .ok ⟨false, 1, lI (rowP n s)⟩ [⟨true, some (1, lI ms)⟩, ⟨false, none⟩] := by
  suffices h : @Wp Vl (f_law_order K ev [⟨true, some (1, lI ns)⟩, ⟨false, some (0, .int (n : Nat))⟩]) ⟨fun x S' => ∃ s ms, Per n s ∧ ms.length ≤ ns.length ∧ x = ⟨false, 1, lI (rowP n s)⟩ ∧ S' = [⟨true, some (1, lI ms)⟩, ⟨false, none⟩], noE⟩ by
    cases hr : f_law_order K ev [⟨true, some (1, lI ns)⟩, ⟨false, some (0, .int (n : Nat))⟩] with
    | stuck => rw [hr] at h; simp only [w_stuck] at h
    | err a w s => rw [hr] at h; simp only [w_err] at h; exact h.elim
    | ok x s =>
      rw [hr] at h
      simp only [w_ok] at h
      obtain ⟨s, ms, h1, h2, rfl, rfl⟩ := h
      exact ⟨s, ms, h1, h2, rfl⟩
  unfold f_law_order
  simp_arith []
  unfold g_law_order
  simp_arith [rangeI n (by omega), rngI]
  rw [if_pos (by decide)]
  simp_arith [range1_nat (n := n) (by omega)]
  refine w_loopN (fun i : Nat => .int (i : Nat)) (fun k S => ∃ (ms L F : List Int) (w4 : Option D), S = [⟨true, some (1, lI ms)⟩, ⟨false, some (0, .int (n : Nat))⟩, ⟨false, some (1, lI L)⟩, ⟨false, some (1, lI F)⟩, ⟨false, w4.map fun d => (0, d)⟩] ∧ ms.length ≤ ns.length ∧ F.length = k ∧ (F ++ L).Perm (rowP n id))
    ⟨ns, rowP n id, [], none, rfl, Nat.le_refl _, rfl, List.Perm.refl _⟩ (fun k S hk hS => ?_) (fun S hS => ?_)
  · obtain ⟨ms, L, F, w4, rfl, hms, hF, hP⟩ := hS
    have hLl : L.length + k = n := by
      have := hP.length_eq
      rw [List.length_append, rowP, rowN_len] at this
      omega
    simp only [u_gaName, List.getElem?_cons_succ, List.getElem?_cons_zero, put_0, put_s]
    obtain ⟨r, ms', h0, h1, h2, e⟩ := take_ok K ev ms (L.length : Int) (by omega)
    have hcall : gD (gCall (f_law_take K ev) (gArIo 0 (gArV (gApp1 dLen (gBor 2)) gArN))) [⟨true, some (1, lI ms)⟩, ⟨false, some (0, .int (n : Nat))⟩, ⟨false, some (1, lI L)⟩, ⟨false, some (1, lI F)⟩, ⟨false, some (0, .int (k : Nat))⟩] = .ok (.int r) [⟨true, some (1, lI ms')⟩, ⟨false, some (0, .int (n : Nat))⟩, ⟨false, some (1, lI L)⟩, ⟨false, some (1, lI F)⟩, ⟨false, some (0, .int (k : Nat))⟩] := by
      apply w_eq
      simp_arith [dLen_lI]
      refine w_to e ?_
      simp_arith []
    obtain ⟨d, hd, ep⟩ := popAt_I (i := 2) (k := 0) (b := false) (b' := false) (k' := 0) (xs := L.map D.int) (xs' := L.map D.int) h0 (by rw [List.length_map]; exact h1) (by rw [List.length_map]; omega) rfl hcall rfl
    obtain ⟨x, hx, rfl⟩ : ∃ x, L[r.toNat]? = some x ∧ d = .int x := by
      rw [List.getElem?_map] at hd
      cases h : L[r.toNat]? with
      | none => rw [h] at hd; cases hd
      | some x => rw [h] at hd; cases hd; exact ⟨x, rfl, rfl⟩
    rw [map_erase] at ep
    simp only [lI] at ep ⊢
    simp only [↓w_gDrop, ↓w_gV, ↓w_gApd, List.getElem?_cons_succ, List.getElem?_cons_zero]
    refine w_to ep ?_
    simp_arith [List.length_map]
    rw [if_pos (by rw [decide_eq_true_eq]; omega)]
    refine ⟨ms', L.eraseIdx r.toNat, F ++ [x], some (.int (k : Nat)), by simp [lI], by omega, by simp [hF], ?_⟩
    refine List.Perm.trans ?_ hP
    rw [List.append_assoc]
    exact List.Perm.append_left F (erase_perm L _ x hx).symm
  · obtain ⟨ms, L, F, w4, rfl, hms, hF, hP⟩ := hS
    have hL : L = [] := by
      have := hP.length_eq
      rw [List.length_append, rowP, rowN_len] at this
      exact List.length_eq_zero_iff.mp (by omega)
    subst hL
    rw [List.append_nil] at hP
    obtain ⟨s, es, hs⟩ := Valid.per (n := n) (q := (F, 1)) ⟨by
      show srt F = rowP n id
      have h1 : srt F = srt (rowP n id) := srt_eq.mpr hP
      rw [h1]
      exact (Per.valid (n := n) (s := id) ⟨fun i h => h, fun i j _ _ e => e⟩), Int.le_refl _⟩
    simp_arith []
    have es' : F = rowP n s := es
    exact ⟨by decide, s, ms, hs, hms, by rw [es'], rfl⟩

end VL

set_option Elab.async false
set_option linter.all false
set_option autoImplicit false
set_option maxRecDepth 100000
set_option maxHeartbeats 4000000
namespace VL
open PySem PySem.Spec L2
open PyProof.Rows hiding St
local macro_rules
  | `(tactic| simp_arith [$ts,*]) => `(tactic| simp only [↓w_ok, ↓w_err, ↓w_stuck, ↓w_if, ↓w_gD, ↓w_gV, ↓w_gOp, ↓w_gBool, ↓w_gCons, ↓w_gLst, ↓w_gTup, ↓w_gApp, ↓w_gApp1, ↓w_gNew1, ↓w_gOpV, ↓w_gIx, ↓w_gPart_n, ↓w_gPart_s, ↓w_gSl, ↓w_gNew2, ↓w_gCatT, ↓w_gTupOf, ↓w_gSeq, ↓w_gAnd, ↓w_gOr, ↓w_gNot, ↓w_gAndV, ↓w_gOrV, ↓w_gNotV, ↓w_gIfE, ↓w_gTru, ↓w_gThen, ↓w_gDrop, ↓w_gRet, ↓w_gIfS, ↓w_gSet, ↓w_gAsg, ↓w_gFor, ↓w_gArV, ↓w_gCall, ↓w_gCallP, ↓w_gLenSet, ↓w_gRaise, ↓w_gIt, ↓w_gEnum, ↓w_gLRange, ↓w_gArIo, ↓w_gIxN, ↓w_gApd, ↓w_gPopAt, ↓w_gSetIx, ↓w_gDPut, ↓w_gNeg, ↓w_gTRange, ↓w_gEnumS, ↓w_gDIx, ↓w_gDGet2, ↓w_gBest, ↓w_gLend, ↓w_gFzS, ↓w_gAug, ↓w_gExtV, ↓w_fn, ↓w_loop_c, loop_n,
      Nat.reduceEqDiff, reduceIte, Sl.wipe, wipeFrom, List.contains_cons, List.contains_nil, Nat.reduceBEq, Nat.reduceAdd, Nat.zero_add, beq_self_eq_true, seqV_t, seqV_l0, seqV_l1, u_gWalk, u_gVar, u_gC, u_gNil, u_gBor, u_gMov, u_gFrz, u_gYes, u_gNext, u_gBreak, u_gCont, u_gRetN, u_gArN, u_gPop, u_gDnewK, u_gDnewT, u_gListKeys, u_gRev, u_gaName, u_gaNil, u_gaCons, u_gaTup,
      put_0, put_s, List.getElem?_cons_zero, List.getElem?_cons_succ, List.cons_append, List.nil_append, List.replicate_succ, List.replicate_zero, keep_0, keep_f, keep_t, arg_n, arg_v, arg_io, allV_n, allV_v, okIo_n, okIo_v, okIo_i, idxIo_n, idxIo_v, idxIo_i, backSl, backFrom, Option.isNone_none, Option.isNone_some, Option.map_none, Option.map_some, lev_0, lev_1, lineOk,
      hI_int, hB_int, Bool.not_true, Bool.not_false, Bool.and_true, Bool.and_false, Bool.true_and, Bool.false_and, Bool.or_true, Bool.or_false, Bool.true_or, Bool.false_or, if_true, if_false, eq_self, true_and, and_true, Bool.false_eq_true, List.length_cons, List.length_nil, Nat.le_add_left, D.atom, itemsV, $ts,*])
def kz (p : List Int) : List Key := p.map Sum.inl
theorem kz_inj {a b : List Int} (h : kz a = kz b) : a = b := by
  unfold kz at h
  exact (List.map_inj_right fun x y e => Sum.inl.inj e).mp h
theorem kz_D (p : List Int) : (kz p).map kD = p.map D.int := by simp [kz, List.map_map, Function.comp_def, kD]
theorem keys_ints : ∀ p : List Int, keysD (p.map D.int) = some (kz p)
  | [] => rfl
  | a :: p => by simp [keysD, keyD, keys_ints p, kz]
def dicT (ps : List Part) : D := .dT (ps.map fun q => kz q.1) (ps.map fun q => D.int q.2)
def findP (ps : List Part) (p : List Int) : Option Int := (ps.find? fun q => decide (q.1 = p)).map (·.2)
theorem look_dic : ∀ (ps : List Part) (p : List Int), lookX (ps.map fun q => kz q.1) (ps.map fun q => D.int q.2) (kz p) = (findP ps p).map D.int
  | [], p => rfl
  | q :: ps, p => by
    have ih := look_dic ps p
    unfold lookX findP at ih ⊢
    simp only [List.map_cons, List.zip_cons_cons, List.find?_cons]
    by_cases h : q.1 = p
    · simp [h]
    · have : kz q.1 ≠ kz p := fun e => h (kz_inj e)
      simp only [this, h, decide_false]
      exact ih
theorem dLook_dic (ps : List Part) (p : List Int) : dLook (dicT ps) (tI p) = some ((findP ps p).map D.int) := by
  simp [dLook, dicT, tI, keys_ints, look_dic]
def addP (ps : List Part) (p : List Int) (v : Int) : List Part := if p ∈ ps.map (·.1) then ps.map fun q => if q.1 = p then (q.1, v) else q else ps ++ [(p, v)]
theorem put_dic (ps : List Part) (p : List Int) (v : Int) (h : ps.length < 16777216) : dPut (dicT ps) (tI p) (.int v) = some (dicT (addP ps p v)) := by
  have hm : kz p ∈ (ps.map fun q => kz q.1) ↔ p ∈ ps.map (·.1) := by
    simp only [List.mem_map]
    constructor
    · rintro ⟨q, hq, e⟩; exact ⟨q, hq, kz_inj e⟩
    · rintro ⟨q, hq, e⟩; exact ⟨q, hq, by rw [e]⟩
  have hz : ∀ ps : List Part, List.zipWith (fun k' y => if k' = kz p then D.int v else y) (ps.map fun q => kz q.1) (ps.map fun q => D.int q.2) = (ps.map fun q => if q.1 = p then (q.1, v) else q).map fun q => D.int q.2 := fun ps => by
    induction ps with
    | nil => rfl
    | cons q ps ih =>
      simp only [List.map_cons, List.zipWith_cons_cons, ih]
      by_cases e : q.1 = p
      · simp [e]
      · have : kz q.1 ≠ kz p := fun e' => e (kz_inj e')
        simp [e, this]
  simp only [dPut, dicT, tI, keys_ints, List.length_map, h, if_true, putX, hm]
  unfold addP
  by_cases hp : p ∈ ps.map (·.1)
  · rw [if_pos hp, if_pos hp]
    simp only [hz]
    congr 2
    rw [List.map_map]
    refine List.map_congr_left fun q _ => ?_
    simp only [Function.comp]
    split <;> rfl
  · rw [if_neg hp, if_neg hp]
    simp
theorem addP_keys (ps : List Part) (p : List Int) (v : Int) : (addP ps p v).map (·.1) = if p ∈ ps.map (·.1) then ps.map (·.1) else ps.map (·.1) ++ [p] := by
  unfold addP
  by_cases hp : p ∈ ps.map (·.1)
  · rw [if_pos hp, if_pos hp, List.map_map]
    refine List.map_congr_left fun q _ => ?_
    simp only [Function.comp]
    split <;> rfl
  · rw [if_neg hp, if_neg hp]; simp
theorem addP_mem {ps : List Part} {p : List Int} {v : Int} {q : Part} (h : q ∈ addP ps p v) : q ∈ ps ∨ q = (p, v) := by
  unfold addP at h
  split at h
  · obtain ⟨q0, h0, rfl⟩ := List.mem_map.mp h
    split
    · rename_i e; exact .inr (by rw [e])
    · exact .inl h0
  · rcases List.mem_append.mp h with h | h
    · exact .inl h
    · exact .inr (by simpa using h)
theorem addP_len (ps : List Part) (p : List Int) (v : Int) : (addP ps p v).length ≤ ps.length + 1 := by
  unfold addP
  split <;> simp
theorem findP_mem {ps : List Part} {p : List Int} {v : Int} (h : findP ps p = some v) : (p, v) ∈ ps := by
  unfold findP at h
  obtain ⟨q, h1, rfl⟩ := Option.map_eq_some_iff.mp h
  have h2 := List.find?_some h1
  have h3 := List.mem_of_find?_eq_some h1
  have : q.1 = p := by simpa using h2
  rw [← this]; exact h3
theorem findP_nd : ∀ {ps : List Part}, (ps.map (·.1)).Nodup → ∀ q ∈ ps, findP ps q.1 = some q.2
  | [], _, q, hq => by simp at hq
  | a :: ps, hn, q, hq => by
    rw [List.map_cons, List.nodup_cons] at hn
    unfold findP
    rw [List.find?_cons]
    rcases List.mem_cons.mp hq with rfl | hq
    · simp
    · have : a.1 ≠ q.1 := fun e => hn.1 (by rw [e]; exact List.mem_map.mpr ⟨q, hq, rfl⟩)
      simp only [this, decide_false]
      exact findP_nd hn.2 q hq
theorem put_ok (K : PySem.W.Frag) (ev : Ev) (ps : List Part) (p : List Int) (v : Int) (h : ps.length < 1000) :
    f_law_put K ev [⟨true, some (1, dicT ps)⟩, ⟨false, some (0, tI p)⟩, ⟨false, some (0, .int v)⟩] = .ok ⟨false, 0, .non⟩ [⟨true, some (1, dicT (addP ps p ((findP ps p).getD 0 + v)))⟩, ⟨false, none⟩, ⟨false, none⟩] := by
  apply w_eq
  unfold f_law_put
  simp_arith []
  unfold g_law_put
  have hd : isDict (dicT ps) = true := rfl
  simp_arith [dLook_dic, hd]
  cases hf : findP ps p with
  | none =>
    simp_arith [Option.map_none, Option.getD_none]
    rw [put_dic ps p _ (by omega)]
    simp_arith []
    exact ⟨by decide, rfl⟩
  | some x =>
    simp_arith [Option.map_some, Option.getD_some]
    rw [put_dic ps p _ (by omega)]
    simp_arith []
    exact ⟨by decide, rfl⟩

end VL

set_option Elab.async false
set_option linter.all false
set_option autoImplicit false
set_option maxRecDepth 100000
set_option maxHeartbeats 4000000
namespace VL
open PySem PySem.Spec L2
open PyProof.Rows hiding St
local macro_rules
  | `(tactic| simp_arith [$ts,*]) => `(tactic| simp only [↓w_ok, ↓w_err, ↓w_stuck, ↓w_if, ↓w_gD, ↓w_gV, ↓w_gOp, ↓w_gBool, ↓w_gCons, ↓w_gLst, ↓w_gTup, ↓w_gApp, ↓w_gApp1, ↓w_gNew1, ↓w_gOpV, ↓w_gIx, ↓w_gPart_n, ↓w_gPart_s, ↓w_gSl, ↓w_gNew2, ↓w_gCatT, ↓w_gTupOf, ↓w_gSeq, ↓w_gAnd, ↓w_gOr, ↓w_gNot, ↓w_gAndV, ↓w_gOrV, ↓w_gNotV, ↓w_gIfE, ↓w_gTru, ↓w_gThen, ↓w_gDrop, ↓w_gRet, ↓w_gIfS, ↓w_gSet, ↓w_gAsg, ↓w_gFor, ↓w_gArV, ↓w_gCall, ↓w_gCallP, ↓w_gLenSet, ↓w_gRaise, ↓w_gIt, ↓w_gEnum, ↓w_gLRange, ↓w_gArIo, ↓w_gIxN, ↓w_gApd, ↓w_gPopAt, ↓w_gSetIx, ↓w_gDPut, ↓w_gNeg, ↓w_gTRange, ↓w_gEnumS, ↓w_gDIx, ↓w_gDGet2, ↓w_gBest, ↓w_gLend, ↓w_gFzS, ↓w_gAug, ↓w_gExtV, ↓w_fn, ↓w_loop_c, loop_n,
      Nat.reduceEqDiff, reduceIte, Sl.wipe, wipeFrom, List.contains_cons, List.contains_nil, Nat.reduceBEq, Nat.reduceAdd, Nat.zero_add, beq_self_eq_true, seqV_t, seqV_l0, seqV_l1, u_gWalk, u_gVar, u_gC, u_gNil, u_gBor, u_gMov, u_gFrz, u_gYes, u_gNext, u_gBreak, u_gCont, u_gRetN, u_gArN, u_gPop, u_gDnewK, u_gDnewT, u_gListKeys, u_gRev, u_gaName, u_gaNil, u_gaCons, u_gaTup,
      put_0, put_s, List.getElem?_cons_zero, List.getElem?_cons_succ, List.cons_append, List.nil_append, List.replicate_succ, List.replicate_zero, keep_0, keep_f, keep_t, arg_n, arg_v, arg_io, allV_n, allV_v, okIo_n, okIo_v, okIo_i, idxIo_n, idxIo_v, idxIo_i, backSl, backFrom, Option.isNone_none, Option.isNone_some, Option.map_none, Option.map_some, lev_0, lev_1, lineOk,
      hI_int, hB_int, Bool.not_true, Bool.not_false, Bool.and_true, Bool.and_false, Bool.true_and, Bool.false_and, Bool.or_true, Bool.or_false, Bool.true_or, Bool.false_or, if_true, if_false, eq_self, true_and, and_true, Bool.false_eq_true, List.length_cons, List.length_nil, Nat.le_add_left, D.atom, itemsV, $ts,*])
structure Made (n m : Nat) (ps : List Part) : Prop where
  per : ∀ q ∈ ps, ∃ s, q.1 = rowP n s ∧ Per n s
  pos : ∀ q ∈ ps, 1 ≤ q.2 ∧ q.2 ≤ 4 * m
  nd : (ps.map (·.1)).Nodup
  len : ps.length ≤ m
  sum : (ps.map (·.2)).sum ≤ 4 * m
theorem sum_upd (p : List Int) (w : Int) : ∀ ps : List Part, (ps.map (·.1)).Nodup → ((ps.map fun q => if q.1 = p then (q.1, w) else q).map (·.2)).sum = (ps.map (·.2)).sum + if p ∈ ps.map (·.1) then w - (findP ps p).getD 0 else 0
  | [], _ => rfl
  | q :: ps, hn => by
    rw [List.map_cons, List.nodup_cons] at hn
    have ih := sum_upd p w ps hn.2
    simp only [List.map_cons, List.sum_cons, ih]
    by_cases e : q.1 = p
    · have hnot : p ∉ ps.map (·.1) := e ▸ hn.1
      have hf : findP (q :: ps) p = some q.2 := by simp [findP, List.find?_cons, e]
      simp only [e, if_true, List.mem_cons, true_or, hf, Option.getD_some, hnot, if_false]
      omega
    · have hf : findP (q :: ps) p = findP ps p := by simp [findP, List.find?_cons, e]
      have e' : ¬ p = q.1 := fun h => e h.symm
      simp only [e, if_false, List.mem_cons, e', false_or, hf]
      omega
theorem addP_sum {ps : List Part} (hn : (ps.map (·.1)).Nodup) (p : List Int) (v : Int) : ((addP ps p ((findP ps p).getD 0 + v)).map (·.2)).sum = (ps.map (·.2)).sum + v := by
  unfold addP
  by_cases hp : p ∈ ps.map (·.1)
  · rw [if_pos hp, sum_upd p _ ps hn, if_pos hp]; omega
  · rw [if_neg hp]
    have : findP ps p = none := by
      cases hf : findP ps p with
      | none => rfl
      | some x => exact absurd (List.mem_map.mpr ⟨_, findP_mem hf, rfl⟩) hp
    rw [this]; simp [List.sum_append]
theorem Made.put {n m : Nat} {ps : List Part} {s : Nat → Nat} {v : Int} (h : Made n m ps) (hs : Per n s) (hv : 1 ≤ v ∧ v ≤ 4) : Made n (m + 1) (addP ps (rowP n s) ((findP ps (rowP n s)).getD 0 + v)) := by
  refine ⟨fun q hq => ?_, fun q hq => ?_, ?_, ?_, by rw [addP_sum h.nd]; have := h.sum; omega⟩
  · rcases addP_mem hq with hq | rfl
    · exact h.per q hq
    · exact ⟨s, rfl, hs⟩
  · rcases addP_mem hq with hq | rfl
    · have := h.pos q hq
      exact ⟨this.1, by have := this.2; omega⟩
    · simp only
      cases hf : findP ps (rowP n s) with
      | none => simp only [Option.getD_none]; omega
      | some x =>
        have := h.pos _ (findP_mem hf)
        simp only [Option.getD_some] at this ⊢
        omega
  · rw [addP_keys]
    split
    · exact h.nd
    · rename_i hp
      refine List.nodup_append.mpr ⟨h.nd, by simp, fun a ha b hb e => ?_⟩
      have : b = rowP n s := by simpa using hb
      exact hp (by rw [← this, ← e]; exact ha)
  · have := addP_len ps (rowP n s) ((findP ps (rowP n s)).getD 0 + v)
    have := h.len
    omega
theorem range1_I {r : Int} (h0 : 0 ≤ r) (h : r ≤ 1000000) : dRange1 [.int r] = some ((List.range r.toNat).map fun i : Nat => D.int (i : Nat)) := range1_int h (by omega)
theorem keys_dic (ps : List Part) : keysOf (dicT ps) = some (ps.map fun q => tI q.1) := by
  simp [keysOf, dicT, List.map_map, Function.comp_def, kz_D, tI]
theorem made_ok (K : PySem.W.Frag) (ev : Ev) (ns : List Int) (n : Nat) (hn : n ≤ 1000) : ∃ ps ms, Made n 4 ps ∧ ms.length ≤ ns.length ∧
    f_law_made K ev [⟨true, some (1, lI ns)⟩, ⟨false, some (0, .int (n : Nat))⟩] = .ok ⟨false, 1, .lst (ps.map pD)⟩ [⟨true, some (1, lI ms)⟩, ⟨false, none⟩] := by
  suffices h : @Wp Vl (f_law_made K ev [⟨true, some (1, lI ns)⟩, ⟨false, some (0, .int (n : Nat))⟩]) ⟨fun x S' => ∃ ps ms, Made n 4 ps ∧ ms.length ≤ ns.length ∧ x = ⟨false, 1, .lst (ps.map pD)⟩ ∧ S' = [⟨true, some (1, lI ms)⟩, ⟨false, none⟩], noE⟩ by
    cases hr : f_law_made K ev [⟨true, some (1, lI ns)⟩, ⟨false, some (0, .int (n : Nat))⟩] with
    | stuck => rw [hr] at h; simp only [w_stuck] at h
    | err a w s => rw [hr] at h; simp only [w_err] at h; exact h.elim
    | ok x s =>
      rw [hr] at h
      simp only [w_ok] at h
      obtain ⟨ps, ms, h1, h2, rfl, rfl⟩ := h
      exact ⟨ps, ms, h1, h2, rfl⟩
  unfold f_law_made
  simp_arith []
  unfold g_law_made
  simp_arith []
  obtain ⟨r, ms0, h0, h1, h2, e⟩ := take_ok K ev ns 5 (by decide)
  refine w_to e ?_
  simp_arith [Vl.fzn, range1_I h0 (by omega)]
  refine w_loopN (fun i : Nat => .int (i : Nat)) (fun k S => ∃ (ms : List Int) (ps : List Part) (w3 : Option D), S = [⟨true, some (1, lI ms)⟩, ⟨false, some (0, .int (n : Nat))⟩, ⟨false, some (1, dicT ps)⟩, ⟨false, w3.map fun d => (0, d)⟩, ⟨false, none⟩] ∧ ms.length ≤ ns.length ∧ Made n k ps)
    ⟨ms0, [], none, rfl, h2, ⟨fun _ h => by simp at h, fun _ h => by simp at h, by simp, by simp, by simp⟩⟩ (fun k S hk hS => ?_) (fun S hS => ?_)
  · obtain ⟨ms, ps, w3, rfl, hms, hM⟩ := hS
    simp_arith []
    obtain ⟨s, ms1, hs, hm1, e1⟩ := order_ok K ev ms n hn
    refine w_to e1 ?_
    simp_arith [lI]
    obtain ⟨x, ms2, x0, x1, hm2, e2⟩ := take_ok K ev ms1 4 (by decide)
    simp only [lI] at e2
    refine w_to e2 ?_
    simp_arith [Vl.fzn]
    have hpl : ps.length < 1000 := by have := hM.len; omega
    have e3 := put_ok K ev ps (rowP n s) (1 + x) hpl
    simp only [tI] at e3
    refine w_to e3 ?_
    simp_arith []
    exact ⟨ms2, _, some (.int (k : Nat)), rfl, by omega, hM.put hs ⟨by omega, by omega⟩⟩
  · obtain ⟨ms, ps, w3, rfl, hms, hM⟩ := hS
    simp_arith []
    refine w_lc (fun q : Part => tI q.1) (fun _ => true) pD ps ?_ (by rfl) (by have := hM.len; omega) (fun q hq => ?_) ?_
    · simp_arith [keys_dic]
    · simp_arith [dLook_dic, findP_nd hM.nd q hq, Option.map_some, forall_const, pD]
      decide
    simp_arith [filter_tt]
    exact ⟨by decide, ps, ms, ⟨hM.per, fun q hq => ⟨(hM.pos q hq).1, by have := (hM.pos q hq).2; omega⟩, hM.nd, by have := hM.len; omega, by have := hM.sum; omega⟩, hms, rfl, rfl⟩

end VL

set_option Elab.async false
set_option linter.all false
set_option autoImplicit false
set_option maxRecDepth 100000
set_option maxHeartbeats 4000000
namespace VL
open PySem PySem.Spec L2
open PyProof.Rows hiding St
local macro_rules
  | `(tactic| simp_arith [$ts,*]) => `(tactic| simp only [↓w_ok, ↓w_err, ↓w_stuck, ↓w_if, ↓w_gD, ↓w_gV, ↓w_gOp, ↓w_gBool, ↓w_gCons, ↓w_gLst, ↓w_gTup, ↓w_gApp, ↓w_gApp1, ↓w_gNew1, ↓w_gOpV, ↓w_gIx, ↓w_gPart_n, ↓w_gPart_s, ↓w_gSl, ↓w_gNew2, ↓w_gCatT, ↓w_gTupOf, ↓w_gSeq, ↓w_gAnd, ↓w_gOr, ↓w_gNot, ↓w_gAndV, ↓w_gOrV, ↓w_gNotV, ↓w_gIfE, ↓w_gTru, ↓w_gThen, ↓w_gDrop, ↓w_gRet, ↓w_gIfS, ↓w_gSet, ↓w_gAsg, ↓w_gFor, ↓w_gArV, ↓w_gCall, ↓w_gCallP, ↓w_gLenSet, ↓w_gRaise, ↓w_gIt, ↓w_gEnum, ↓w_gLRange, ↓w_gArIo, ↓w_gIxN, ↓w_gApd, ↓w_gPopAt, ↓w_gSetIx, ↓w_gDPut, ↓w_gNeg, ↓w_gTRange, ↓w_gEnumS, ↓w_gDIx, ↓w_gDGet2, ↓w_gBest, ↓w_gLend, ↓w_gFzS, ↓w_gAug, ↓w_gExtV, ↓w_fn, ↓w_loop_c, loop_n,
      Nat.reduceEqDiff, reduceIte, Sl.wipe, wipeFrom, List.contains_cons, List.contains_nil, Nat.reduceBEq, Nat.reduceAdd, Nat.zero_add, beq_self_eq_true, seqV_t, seqV_l0, seqV_l1, u_gWalk, u_gVar, u_gC, u_gNil, u_gBor, u_gMov, u_gFrz, u_gYes, u_gNext, u_gBreak, u_gCont, u_gRetN, u_gArN, u_gPop, u_gDnewK, u_gDnewT, u_gListKeys, u_gRev, u_gaName, u_gaNil, u_gaCons, u_gaTup,
      put_0, put_s, List.getElem?_cons_zero, List.getElem?_cons_succ, List.cons_append, List.nil_append, List.replicate_succ, List.replicate_zero, keep_0, keep_f, keep_t, arg_n, arg_v, arg_io, allV_n, allV_v, okIo_n, okIo_v, okIo_i, idxIo_n, idxIo_v, idxIo_i, backSl, backFrom, Option.isNone_none, Option.isNone_some, Option.map_none, Option.map_some, lev_0, lev_1, lineOk,
      hI_int, hB_int, Bool.not_true, Bool.not_false, Bool.and_true, Bool.and_false, Bool.true_and, Bool.false_and, Bool.or_true, Bool.or_false, Bool.true_or, Bool.false_or, if_true, if_false, eq_self, true_and, and_true, Bool.false_eq_true, List.length_cons, List.length_nil, Nat.le_add_left, D.atom, itemsV, $ts,*])
theorem plain_bool (K : PySem.W.Frag) (ev : Ev) (b : Bool) : ∃ z T', f_law_plain K ev 6 [⟨false, some (0, .bl b)⟩] = .ok ⟨false, 0, .str z⟩ T' := by
  cases b
  · refine ⟨"False", [⟨false, none⟩], ?_⟩
    simp [f_law_plain, fnSem, g_law_plain, gThen, gIfS, gTru, gV, gApp, gCons, gNil, gVar, gTup, gC, lineOk, R.bind, dIsi, Vl.fzn, truD, gNext]
    rfl
  · refine ⟨"True", [⟨false, none⟩], ?_⟩
    simp [f_law_plain, fnSem, g_law_plain, gThen, gIfS, gTru, gV, gApp, gCons, gNil, gVar, gTup, gC, lineOk, R.bind, dIsi, Vl.fzn, truD, gNext]
    rfl
def plI (i : Int) : D := .lst [.bl false, .int i]
theorem plain_int (K : PySem.W.Frag) (ev : Ev) (k : Nat) (i : Int) : ∃ T', f_law_plain K ev (k + 1) [⟨false, some (0, .int i)⟩] = .ok ⟨false, 1, plI i⟩ T' := by
  refine ⟨[⟨false, none⟩], ?_⟩
  simp [f_law_plain, fnSem, g_law_plain, gThen, gIfS, gTru, gV, gApp, gCons, gNil, gVar, gTup, gC, lineOk, R.bind, dIsi, Vl.fzn, truD, gNext]
  rfl
theorem filter_all {α : Type} (l : List α) : l.filter (fun _ => true) = l := List.filter_eq_self.mpr (by simp)
theorem plain_seq {α : Type} (K : PySem.W.Frag) (ev : Ev) (k : Nat) (c e : α → D) (L : List α) (hl : L.length ≤ 1000) (t : Bool)
    (hc : ∀ a ∈ L, ∃ m T', m ≤ 1 ∧ f_law_plain K ev k [⟨false, some (0, c a)⟩] = .ok ⟨false, m, e a⟩ T') (d : D) (hd : d = if t then .lst (L.map c) else .tup (L.map c)) :
    f_law_plain K ev (k + 1) [⟨false, some (0, d)⟩] = .ok ⟨false, 1, .lst (.bl t :: L.map e)⟩ [⟨false, none⟩] := by
  have hi : itemsV (.fzn d) = some (L.map c) := by subst hd; cases t <;> rfl
  have hlc := gLc_map (vs := [1]) (v := 1) (gi := gSeq true (gV (gVar 0))) (gt := gYes) (ge := gD (gCallP (f_law_plain K ev k) (gArV (gVar 1) gArN))) (S := [⟨false, some (0, d)⟩, ⟨false, none⟩]) (L := L) c (fun _ => true) e
    (by simp [gSeq, gV, gVar, R.bind, hi]) rfl (by omega) rfl (fun a ha => ⟨rfl, fun _ => by
      obtain ⟨m, T', hm, h⟩ := hc a ha
      refine ⟨[⟨false, some (0, d)⟩, ⟨false, some (0, c a)⟩], ?_⟩
      have hcall : gCallP (f_law_plain K ev k) (gArV (gVar 1) gArN) [⟨false, some (0, d)⟩, ⟨false, some (0, c a)⟩] = .ok ⟨false, m, e a⟩ [⟨false, some (0, d)⟩, ⟨false, some (0, c a)⟩] := gCallP_eq (as := [.v (c a)]) rfl rfl rfl h
      simp [gD, Sl.wipe, wipeFrom, Sl.put, hcall, R.bind]⟩)
  rw [filter_all] at hlc
  have hlen : L.length + 1 ≤ 16777216 := by omega
  have h1 : gTru (gV (gApp dIsi (gCons (gVar 0) (gCons (gTup (gCons (gC (.ty "tuple")) (gCons (gC (.ty "list")) gNil))) gNil)))) [⟨false, some (0, d)⟩, ⟨false, none⟩] = .ok true [⟨false, some (0, d)⟩, ⟨false, none⟩] := by
    subst hd; cases t <;> rfl
  have h2 : gLst (gCons (gApp dIsi (gCons (gVar 0) (gCons (gC (.ty "list")) gNil))) gNil) [⟨false, some (0, d)⟩, ⟨false, none⟩] = .ok ⟨false, 1, .lst [.bl t]⟩ [⟨false, some (0, d)⟩, ⟨false, none⟩] := by
    subst hd; cases t <;> simp [gLst, gCons, gNil, gApp, gVar, gC, R.bind, lineOk, dIsi] <;> rfl
  have h3 : gNew2 true dCat (gLst (gCons (gApp dIsi (gCons (gVar 0) (gCons (gC (.ty "list")) gNil))) gNil)) (gLc true [(1 : Nat)] (gSeq true (gV (gVar 0))) (gaName 1) gYes (gD (gCallP (f_law_plain K ev k) (gArV (gVar 1) gArN)))) [⟨false, some (0, d)⟩, ⟨false, none⟩] = .ok ⟨false, 1, .lst (.bl t :: L.map e)⟩ [⟨false, some (0, d)⟩, ⟨false, none⟩] := by
    have hcat : dCat (.lst [.bl t]) (.lst (L.map e)) = some (.bl t :: L.map e) := by simp [dCat, lineOk, hlen]
    simp only [gNew2, h2, hlc, R.bind, Vl.lev, hcat]
    rfl
  have main : g_law_plain K ev (f_law_plain K ev k) [⟨false, some (0, d)⟩, ⟨false, none⟩] = .ok (.rt ⟨false, 1, .lst (.bl t :: L.map e)⟩) [⟨false, some (0, d)⟩, ⟨false, none⟩] := by
    unfold g_law_plain
    refine gThen_rt ((gIfS_t h1).trans ?_)
    unfold gRet
    rw [h3]; rfl
  exact (fnSem_rt (n := 1) (m := 1) (T := [⟨false, some (0, d)⟩]) main (by simp)).trans rfl
def plT (l : List Int) : D := .lst (.bl false :: l.map plI)
theorem plain_tup' (K : PySem.W.Frag) (ev : Ev) (k : Nat) (l : List Int) (hl : l.length ≤ 1000) : ∃ T', f_law_plain K ev (k + 2) [⟨false, some (0, tI l)⟩] = .ok ⟨false, 1, plT l⟩ T' :=
  ⟨_, plain_seq K ev (k + 1) D.int plI l hl false (fun i _ => by obtain ⟨T', h⟩ := plain_int K ev k i; exact ⟨1, T', by omega, h⟩) (tI l) rfl⟩
theorem dEq_str (z : Str) : dEq true (.str z) (.str z) = some (.bl false) := dEq_self (d := .str z) (by simp [D.plain]) (by simp [D.py, PyData.depth]) true
theorem ok_plI (i : Int) : (plI i).plain = true ∧ (plI i).py.depth ≤ 3 := by
  have h := ok_lst (fun d => d) 0 [.bl false, .int i] (by simp [D.plain, D.py, PyData.depth])
  exact ⟨h.1, by have := h.2; show (D.lst (List.map (fun d => d) [.bl false, .int i])).py.depth ≤ 3; omega⟩
theorem ok_plT (l : List Int) : (plT l).plain = true ∧ (plT l).py.depth ≤ 6 := by
  have h := ok_lst (fun d : D => d) 3 (.bl false :: l.map plI) (by
    intro a ha
    rcases List.mem_cons.mp ha with rfl | ha
    · simp [D.plain, D.py, PyData.depth]
    · obtain ⟨i, _, rfl⟩ := List.mem_map.mp ha; exact ok_plI i)
  rw [List.map_id'] at h
  exact ⟨h.1, by have := h.2; unfold plT; omega⟩
/-! parts told plainly -/
def plP (q : Part) : D := .lst [.bl false, plT q.1, plI q.2]
def plPs (ps : List Part) : D := .lst (.bl true :: ps.map plP)
theorem plain_pD (K : PySem.W.Frag) (ev : Ev) (k : Nat) (q : Part) (hl : q.1.length ≤ 1000) : ∃ T', f_law_plain K ev (k + 3) [⟨false, some (0, pD q)⟩] = .ok ⟨false, 1, plP q⟩ T' :=
  ⟨_, plain_seq K ev (k + 2) (fun b : Bool => if b then D.int q.2 else tI q.1) (fun b : Bool => if b then plI q.2 else plT q.1) [false, true] (by simp) false (fun b _ => by
    cases b with
    | false => obtain ⟨T', h⟩ := plain_tup' K ev k q.1 hl; exact ⟨1, T', by omega, h⟩
    | true => obtain ⟨T', h⟩ := plain_int K ev (k + 1) q.2; exact ⟨1, T', by omega, h⟩) (pD q) rfl⟩
theorem plain_parts (K : PySem.W.Frag) (ev : Ev) (ps : List Part) (hs : ps.length ≤ 1000) (hl : ∀ q ∈ ps, q.1.length ≤ 1000) : f_law_plain K ev 6 [⟨false, some (0, .lst (ps.map pD))⟩] = .ok ⟨false, 1, plPs ps⟩ [⟨false, none⟩] :=
  plain_seq K ev 5 pD plP ps hs true (fun q h => by obtain ⟨T', h⟩ := plain_pD K ev 2 q (hl q h); exact ⟨1, T', by omega, h⟩) (.lst (ps.map pD)) rfl
theorem ok_plP (q : Part) : (plP q).plain = true ∧ (plP q).py.depth ≤ 8 := by
  have h := ok_lst (fun d : D => d) 6 [.bl false, plT q.1, plI q.2] (by
    intro a ha
    simp only [List.mem_cons, List.not_mem_nil, or_false] at ha
    rcases ha with rfl | rfl | rfl
    · simp [D.plain, D.py, PyData.depth]
    · exact ok_plT _
    · have := ok_plI q.2; exact ⟨this.1, by omega⟩)
  rw [List.map_id'] at h
  exact h
theorem ok_plPs (ps : List Part) : (plPs ps).plain = true ∧ (plPs ps).py.depth ≤ 60 := by
  have h := ok_lst (fun d : D => d) 8 (.bl true :: ps.map plP) (by
    intro a ha
    rcases List.mem_cons.mp ha with rfl | ha
    · simp [D.plain, D.py, PyData.depth]
    · obtain ⟨i, _, rfl⟩ := List.mem_map.mp ha; exact ok_plP i)
  rw [List.map_id'] at h
  exact ⟨h.1, by have := h.2; unfold plPs; omega⟩
theorem plain_eq (ps : List Part) : dEq true (plPs ps) (plPs ps) = some (.bl false) := dEq_self (ok_plPs ps).1 (ok_plPs ps).2 true

end VL

set_option Elab.async false
set_option linter.all false
set_option autoImplicit false
set_option maxRecDepth 100000
set_option maxHeartbeats 4000000
namespace VL
open PySem PySem.Spec L2
open PyProof.Rows hiding St
local macro_rules
  | `(tactic| simp_arith [$ts,*]) => `(tactic| simp only [↓w_ok, ↓w_err, ↓w_stuck, ↓w_if, ↓w_gD, ↓w_gV, ↓w_gOp, ↓w_gBool, ↓w_gCons, ↓w_gLst, ↓w_gTup, ↓w_gApp, ↓w_gApp1, ↓w_gNew1, ↓w_gOpV, ↓w_gIx, ↓w_gPart_n, ↓w_gPart_s, ↓w_gSl, ↓w_gNew2, ↓w_gCatT, ↓w_gTupOf, ↓w_gSeq, ↓w_gAnd, ↓w_gOr, ↓w_gNot, ↓w_gAndV, ↓w_gOrV, ↓w_gNotV, ↓w_gIfE, ↓w_gTru, ↓w_gThen, ↓w_gDrop, ↓w_gRet, ↓w_gIfS, ↓w_gSet, ↓w_gAsg, ↓w_gFor, ↓w_gArV, ↓w_gCall, ↓w_gCallP, ↓w_gLenSet, ↓w_gRaise, ↓w_gIt, ↓w_gEnum, ↓w_gLRange, ↓w_gArIo, ↓w_gIxN, ↓w_gApd, ↓w_gPopAt, ↓w_gSetIx, ↓w_gDPut, ↓w_gNeg, ↓w_gTRange, ↓w_gEnumS, ↓w_gDIx, ↓w_gDGet2, ↓w_gBest, ↓w_gLend, ↓w_gFzS, ↓w_gAug, ↓w_gExtV, ↓w_fn, ↓w_loop_c, loop_n,
      Nat.reduceEqDiff, reduceIte, Sl.wipe, wipeFrom, List.contains_cons, List.contains_nil, Nat.reduceBEq, Nat.reduceAdd, Nat.zero_add, beq_self_eq_true, seqV_t, seqV_l0, seqV_l1, u_gWalk, u_gVar, u_gC, u_gNil, u_gBor, u_gMov, u_gFrz, u_gYes, u_gNext, u_gBreak, u_gCont, u_gRetN, u_gArN, u_gPop, u_gDnewK, u_gDnewT, u_gListKeys, u_gRev, u_gaName, u_gaNil, u_gaCons, u_gaTup,
      put_0, put_s, List.getElem?_cons_zero, List.getElem?_cons_succ, List.cons_append, List.nil_append, List.replicate_succ, List.replicate_zero, keep_0, keep_f, keep_t, arg_n, arg_v, arg_io, allV_n, allV_v, okIo_n, okIo_v, okIo_i, idxIo_n, idxIo_v, idxIo_i, backSl, backFrom, Option.isNone_none, Option.isNone_some, Option.map_none, Option.map_some, lev_0, lev_1, lineOk,
      hI_int, hB_int, Bool.not_true, Bool.not_false, Bool.and_true, Bool.and_false, Bool.true_and, Bool.false_and, Bool.or_true, Bool.or_false, Bool.true_or, Bool.false_or, if_true, if_false, eq_self, true_and, and_true, Bool.false_eq_true, List.length_cons, List.length_nil, Nat.le_add_left, D.atom, itemsV, $ts,*])
def badA : D := .lst [.lst [.int 1, .int 0], .lst [.int (-1)]]
def badB : D := .lst [.lst [.int 2, .int (-1)], .lst [.int 0, .int 2]]
def badC : D := .lst [.lst [.int 1, .int 0], .lst [.int 1, .int 0]]
theorem csA (K : PySem.W.Frag) (ev : Ev) : f_check_square K ev [⟨false, some (0, badA)⟩] = .err ev.cInvalidMatrix (some ("what", .str "square")) [⟨false, none⟩] := by rfl
theorem csB (K : PySem.W.Frag) (ev : Ev) : f_check_square K ev [⟨false, some (0, badB)⟩] = .err ev.cInvalidMatrix (some ("what", .str "entries")) [⟨false, none⟩] := by rfl
theorem csC (K : PySem.W.Frag) (ev : Ev) : f_check_square K ev [⟨false, some (0, badC)⟩] = .err ev.cInvalidMatrix (some ("what", .str "sums")) [⟨false, none⟩] := by rfl
def whyS (ask : Int) (rows : D) : Sl := [⟨false, some (0, .int ask)⟩, ⟨false, some (0, rows)⟩, ⟨false, some (0, .lst [])⟩, ⟨false, none⟩]
noncomputable def whyB (K : PySem.W.Frag) (ev : Ev) : Sl → R Out := gIfS (gBool (gOpV true (dEq false) (gV (gVar 0)) (gV (gC (.int (0))))))
  (gDrop (gCallP (f_parts_of_square K ev) (gArV (gVar 1) gArN)))
  (gDrop (gCallP (f_judge_parts K ev) (gArV (gVar 1) (gArV (gVar 2) gArN))))
theorem wb {K : PySem.W.Frag} {ev : Ev} {bad : D} {z : Str} (h : f_check_square K ev [⟨false, some (0, bad)⟩] = .err ev.cInvalidMatrix (some ("what", .str z)) [⟨false, none⟩]) (ask : Int) : whyB K ev (whyS ask bad) = .err ev.cInvalidMatrix (some ("what", .str z)) (whyS ask bad) := by
  apply w_er
  unfold whyB whyS
  simp_arith [dEq_int]
  by_cases ha : (ask == 0) = true
  · rw [if_pos ha]
    unfold f_parts_of_square g_parts_of_square
    simp_arith []
    rw [h]
    simp_arith []
    decide
  · rw [if_neg ha]
    unfold f_judge_parts g_judge_parts
    simp_arith []
    rw [h]
    simp_arith []
    decide
theorem tryL_hit {cs : List (Addr × (Addr → Addr → Sl → R Out))} {i : Nat} {gb : Sl → R Out} {S S1 S3 : Sl} {c : Addr} {n : Str} {d : D} {su : Addr → Addr → Sl → R Out} {v : Option (Nat × D)} {o : Out} (hgb : gb S = .err c (some (n, d)) S1) (hf : cs.find? (fun q => q.1 == c) = some (c, su)) (hS : S1[i]? = some ⟨false, v⟩)
    (hs : ∀ a dd, @Wp Out (su a dd (S1.put i (some (0, .exc a dd n d)))) ⟨fun o' S' => o' = o ∧ (∃ v, S'[i]? = some ⟨false, v⟩) ∧ S'.put i none = S3, noE⟩) : gTryL cs i gb S = .ok o S3 := by
  unfold gTryL
  rw [hgb]
  simp only [hf, hS]
  refine tryPick_eq fun a dd => ?_
  have h := hs a dd
  cases hr : su a dd (S1.put i (some (0, .exc a dd n d))) with
  | stuck => rw [hr] at h; simp only [w_stuck] at h
  | err a w s => rw [hr] at h; simp only [w_err] at h; exact h.elim
  | ok x s =>
    rw [hr] at h
    simp only [w_ok] at h
    obtain ⟨rfl, ⟨v, hv⟩, rfl⟩ := h
    simp only [normO, hv]
theorem w_gIsE (a dd : Addr) (i : Nat) (b : Bool) {S : Sl} (p : Po D) : @Wp D (gIsE a dd i b S) p = match S[i]? with
  | some ⟨_, some (0, .exc a' dd' _ _)⟩ => if a' = a ∧ dd' = dd then p.ok (.bl b) S else False
  | _ => False := by
  unfold gIsE
  rcases S[i]? with _ | ⟨pin, _ | ⟨_ | k, e⟩⟩ <;> first | (simp only [w_stuck]; done) | (cases e <;> first | (simp only [w_stuck]; done) | (simp only [w_if, w_ok, w_stuck]; done))
theorem w_gExc (a dd : Addr) (i : Nat) {S : Sl} (p : Po D) : @Wp D (gExc a dd i S) p = match S[i]? with
  | some ⟨_, some (0, .exc a' dd' n d)⟩ => if a' = a ∧ dd' = dd ∧ n = ("what" : Str) then p.ok d S else False
  | _ => False := by
  unfold gExc
  rcases S[i]? with _ | ⟨pin, _ | ⟨_ | k, e⟩⟩ <;> first | (simp only [w_stuck]; done) | (cases e <;> first | (simp only [w_stuck]; done) | (simp only [w_if, w_ok, w_stuck]; done))
theorem why_err {K : PySem.W.Frag} {ev : Ev} {bad : D} {z : Str} (h : f_check_square K ev [⟨false, some (0, bad)⟩] = .err ev.cInvalidMatrix (some ("what", .str z)) [⟨false, none⟩]) (ask : Int) :
    f_law_why K ev [⟨false, some (0, .int ask)⟩, ⟨false, some (0, bad)⟩, ⟨false, some (0, .lst [])⟩] = .ok ⟨false, 0, .tup [.str "matrix", .str z]⟩ [⟨false, none⟩, ⟨false, none⟩, ⟨false, none⟩] := by
  apply w_eq
  unfold f_law_why
  simp_arith []
  unfold g_law_why
  simp only [↓w_gThen]
  refine w_to (tryL_hit (c := ev.cInvalidMatrix) (n := "what") (d := .str z) (S1 := whyS ask bad) (v := none) (o := .rt ⟨false, 0, .tup [.str "matrix", .str z]⟩) (S3 := whyS ask bad) (wb h ask) (by simp only [List.find?_cons, beq_self_eq_true]; rfl) rfl fun a dd => ?_) ?_
  · unfold whyS
    simp_arith [↓w_gIsE, ↓w_gExc, and_self, truD]
    rw [if_pos (by decide)]
    exact ⟨_, rfl⟩
  · unfold whyS
    simp_arith []
    decide
theorem parts_many {K : PySem.W.Frag} {ev : Ev} {n : Nat} {t : Int} {f : Nat → Nat → Int} (b : Bal n t f) (h6 : 6 < n) (hn : n ≤ 30) : f_parts_of_square K ev [⟨false, some (0, mt lI n f)⟩] = .err ev.cTooMany (some ("what", .str "rows")) [⟨false, none⟩] := by
  have hlen : dLen (mt lI n f) = some (.int (n : Nat)) := by simp [mt, dLen]
  apply w_er
  unfold f_parts_of_square
  simp_arith []
  unfold g_parts_of_square
  simp_arith []
  refine w_to (cs_ok K ev (.inl rfl) b hn) ?_
  simp_arith [hlen, gt_int]
  rw [if_pos (by simp; omega)]
  rw [if_pos (by decide)]
  decide
theorem wbm {K : PySem.W.Frag} {ev : Ev} {n : Nat} {t : Int} {f : Nat → Nat → Int} (b : Bal n t f) (h6 : 6 < n) (hn : n ≤ 30) : whyB K ev (whyS 0 (mt lI n f)) = .err ev.cTooMany (some ("what", .str "rows")) (whyS 0 (mt lI n f)) := by
  apply w_er
  unfold whyB whyS
  simp_arith [dEq_int]
  rw [parts_many b h6 hn]
  simp_arith []
theorem why_many {K : PySem.W.Frag} {ev : Ev} (hne : ev.cInvalidMatrix ≠ ev.cTooMany) {n : Nat} {t : Int} {f : Nat → Nat → Int} (b : Bal n t f) (h6 : 6 < n) (hn : n ≤ 30) :
    f_law_why K ev [⟨false, some (0, .int 0)⟩, ⟨false, some (0, mt lI n f)⟩, ⟨false, some (0, .lst [])⟩] = .ok ⟨false, 0, .tup [.str "many", .str "rows"]⟩ [⟨false, none⟩, ⟨false, none⟩, ⟨false, none⟩] := by
  apply w_eq
  unfold f_law_why
  simp_arith []
  unfold g_law_why
  simp only [↓w_gThen]
  refine w_to (tryL_hit (c := ev.cTooMany) (n := "what") (d := .str "rows") (S1 := whyS 0 (mt lI n f)) (v := none) (o := .rt ⟨false, 0, .tup [.str "many", .str "rows"]⟩) (S3 := whyS 0 (mt lI n f)) (wbm b h6 hn) (by simp only [List.find?_cons, beq_self_eq_true, beq_eq_false_iff_ne.mpr hne]; rfl) rfl fun a dd => ?_) ?_
  · unfold whyS
    simp_arith [↓w_gIsE, ↓w_gExc, and_self, truD]
    rw [if_pos (by decide)]
    exact ⟨_, rfl⟩
  · unfold whyS
    simp_arith []
    decide

end VL

set_option Elab.async false
set_option linter.all false
set_option autoImplicit false
set_option maxRecDepth 100000
set_option maxHeartbeats 4000000
namespace VL
open PySem PySem.Spec L2
open PyProof.Rows hiding St
local macro_rules
  | `(tactic| simp_arith [$ts,*]) => `(tactic| simp only [↓w_ok, ↓w_err, ↓w_stuck, ↓w_if, ↓w_gD, ↓w_gV, ↓w_gOp, ↓w_gBool, ↓w_gCons, ↓w_gLst, ↓w_gTup, ↓w_gApp, ↓w_gApp1, ↓w_gNew1, ↓w_gOpV, ↓w_gIx, ↓w_gPart_n, ↓w_gPart_s, ↓w_gSl, ↓w_gNew2, ↓w_gCatT, ↓w_gTupOf, ↓w_gSeq, ↓w_gAnd, ↓w_gOr, ↓w_gNot, ↓w_gAndV, ↓w_gOrV, ↓w_gNotV, ↓w_gIfE, ↓w_gTru, ↓w_gThen, ↓w_gDrop, ↓w_gRet, ↓w_gIfS, ↓w_gSet, ↓w_gAsg, ↓w_gFor, ↓w_gArV, ↓w_gCall, ↓w_gCallP, ↓w_gLenSet, ↓w_gRaise, ↓w_gIt, ↓w_gEnum, ↓w_gLRange, ↓w_gArIo, ↓w_gIxN, ↓w_gApd, ↓w_gPopAt, ↓w_gSetIx, ↓w_gDPut, ↓w_gNeg, ↓w_gTRange, ↓w_gEnumS, ↓w_gDIx, ↓w_gDGet2, ↓w_gBest, ↓w_gLend, ↓w_gFzS, ↓w_gAug, ↓w_gExtV, ↓w_fn, ↓w_loop_c, loop_n,
      Nat.reduceEqDiff, reduceIte, Sl.wipe, wipeFrom, List.contains_cons, List.contains_nil, Nat.reduceBEq, Nat.reduceAdd, Nat.zero_add, beq_self_eq_true, seqV_t, seqV_l0, seqV_l1, u_gWalk, u_gVar, u_gC, u_gNil, u_gBor, u_gMov, u_gFrz, u_gYes, u_gNext, u_gBreak, u_gCont, u_gRetN, u_gArN, u_gPop, u_gDnewK, u_gDnewT, u_gListKeys, u_gRev, u_gaName, u_gaNil, u_gaCons, u_gaTup,
      put_0, put_s, List.getElem?_cons_zero, List.getElem?_cons_succ, List.cons_append, List.nil_append, List.replicate_succ, List.replicate_zero, keep_0, keep_f, keep_t, arg_n, arg_v, arg_io, allV_n, allV_v, okIo_n, okIo_v, okIo_i, idxIo_n, idxIo_v, idxIo_i, backSl, backFrom, Option.isNone_none, Option.isNone_some, Option.map_none, Option.map_some, lev_0, lev_1, lineOk,
      hI_int, hB_int, Bool.not_true, Bool.not_false, Bool.and_true, Bool.and_false, Bool.true_and, Bool.false_and, Bool.or_true, Bool.or_false, Bool.true_or, Bool.false_or, if_true, if_false, eq_self, true_and, and_true, Bool.false_eq_true, List.length_cons, List.length_nil, Nat.le_add_left, D.atom, itemsV, $ts,*])
theorem cell_cons (q : Part) (ps : List Part) (i j : Nat) : cell (q :: ps) i j = (if q.1[i]? = some (j : Int) then q.2 else 0) + cell ps i j := by simp [cell]
/-- the square that parts make -/
theorem parts_bal {n : Nat} : ∀ (ps : List Part), (∀ q ∈ ps, ∃ s, q.1 = rowP n s ∧ Per n s) → (∀ q ∈ ps, 1 ≤ q.2) → Bal n (ps.map (·.2)).sum (cell ps)
  | [], _, _ => ⟨fun i j _ _ => by simp [cell], fun i _ => by rw [sumN_congr (h := fun _ => 0) fun j _ => by simp [cell], sumN_zero]; rfl, fun j _ => by rw [sumN_congr (h := fun _ => 0) fun j _ => by simp [cell], sumN_zero]; rfl⟩
  | q :: ps, h1, h2 => by
    have ih := parts_bal ps (fun q hq => h1 q (by simp [hq])) fun q hq => h2 q (by simp [hq])
    obtain ⟨s, e, hs⟩ := h1 q (by simp)
    have hp := h2 q (by simp)
    have hc : ∀ i j, i < n → cell (q :: ps) i j = (if j = s i then q.2 else 0) + cell ps i j := fun i j hi => by rw [cell_cons, e, cell_per hi]
    refine ⟨fun i j hi hj => ?_, fun i hi => ?_, fun j hj => ?_⟩
    · rw [hc i j hi]
      have := ih.ge i j hi hj
      split <;> omega
    · rw [sumN_congr fun j _ => hc i j hi, sumN_add, sumN_one q.2 (hs.1 i hi)]
      have := ih.row i hi
      have e2 : sumN n (fun j => cell ps i j) = sumN n (cell ps i) := rfl
      rw [List.map_cons, List.sum_cons]; omega
    · rw [sumN_congr fun i hi => hc i j hi, sumN_add, ih.col j hj, sumN_congr (h := fun i => q.2 * if j = s i then 1 else 0) fun i _ => by by_cases e : j = s i <;> simp [e], sumN_mul, hs.hit hj, List.map_cons, List.sum_cons]
      omega
theorem len_sum : ∀ (ps : List Part), (∀ q ∈ ps, 1 ≤ q.2) → (ps.length : Int) ≤ (ps.map (·.2)).sum
  | [], _ => by simp
  | q :: ps, h => by
    have := len_sum ps fun q hq => h q (by simp [hq])
    have := h q (by simp)
    simp only [List.length_cons, List.map_cons, List.sum_cons]; omega
theorem bal_eq {n : Nat} {t u : Int} {f g : Nat → Nat → Int} (hn : 0 < n) (b : Bal n t f) (c : Bal n u g) (e : ∀ i j, i < n → j < n → f i j = g i j) : t = u := by
  rw [← b.row 0 hn, ← c.row 0 hn]
  exact sumN_congr fun j hj => e 0 j hn hj
theorem Parts.tot {n : Nat} {t : Int} {f : Nat → Nat → Int} {ps : List Part} (hn : 0 < n) (b : Bal n t f) (h : Parts n f ps) : (ps.map (·.2)).sum = t := bal_eq hn (parts_bal ps h.per h.pos) b h.sum
theorem Parts.short {n : Nat} {t : Int} {f : Nat → Nat → Int} {ps : List Part} (b : Bal n t f) (h : Parts n f ps) (ht : t ≤ 40) : ps.length ≤ 40 := by
  rcases Nat.eq_zero_or_pos n with rfl | hn
  · have hnd := h.nd
    have he : ∀ q ∈ ps, q.1 = [] := fun q hq => by
      obtain ⟨s, e, _⟩ := h.per q hq
      rw [e]; rfl
    match ps, hnd, he with
    | [], _, _ => simp
    | [_], _, _ => simp
    | a :: b :: ps, hnd, he =>
      have h1 := he a (by simp)
      have h2 := he b (by simp)
      rw [List.map_cons, List.nodup_cons] at hnd
      exact absurd (by rw [h1, ← h2]; simp) hnd.1
  · have h1 := len_sum ps h.pos
    have h2 := h.tot hn b
    omega
theorem Parts.row {n : Nat} {f : Nat → Nat → Int} {ps : List Part} (h : Parts n f ps) {q : Part} (hq : q ∈ ps) : q.1.length = n := by
  obtain ⟨s, e, _⟩ := h.per q hq
  rw [e, rowP, rowN_len]
/-- the square of one permutation -/
def onesM (s : Nat → Nat) : Nat → Nat → Int := fun i j => if s i = j then 1 else 0
theorem ones_cell {n : Nat} {s : Nat → Nat} {i j : Nat} (hi : i < n) : cell [(rowP n s, 1)] i j = onesM s i j := by
  unfold cell onesM
  simp only [List.map_cons, List.map_nil, List.sum_cons, List.sum_nil, Int.add_zero]
  rw [cell_per hi]
  by_cases e : s i = j
  · rw [if_pos e, if_pos e.symm]
  · rw [if_neg e, if_neg fun h => e h.symm]
theorem ones_bal {n : Nat} {s : Nat → Nat} (hs : Per n s) : Bal n 1 (onesM s) := by
  have b := parts_bal (n := n) [(rowP n s, 1)] (fun q hq => by
    have e : q = (rowP n s, 1) := by simpa using hq
    exact ⟨s, by rw [e], hs⟩) fun q hq => by
    have e : q = (rowP n s, 1) := by simpa using hq
    rw [e]; exact Int.le_refl 1
  refine ⟨fun i j hi hj => by rw [← ones_cell hi]; exact b.ge i j hi hj, fun i hi => ?_, fun j hj => ?_⟩
  · rw [sumN_congr fun j _ => (ones_cell hi).symm]; exact b.row i hi
  · rw [sumN_congr fun i hi => (ones_cell hi).symm]; exact b.col j hj
theorem one_part {n : Nat} (hn : 0 < n) {s : Nat → Nat} (hs : Per n s) {ps : List Part} (h : Parts n (onesM s) ps) : ps = [(rowP n s, 1)] := by
  have ht := h.tot hn (ones_bal hs)
  have hl := len_sum ps h.pos
  match ps, h, ht, hl with
  | [], _, ht, _ => simp at ht
  | a :: b :: ps, h, ht, hl =>
    simp only [List.length_cons] at hl
    omega
  | [q], h, ht, _ =>
    have h2 : q.2 = 1 := by simpa using ht
    obtain ⟨s', e, hs'⟩ := h.per q (by simp)
    have e1 : q = (rowP n s', 1) := by rw [← e, ← h2]
    have e2 : rowP n s' = rowP n s := rowN_congr fun i hi => by
      have h3 := h.sum i (s' i) hi (hs'.1 i hi)
      rw [e1, ones_cell hi] at h3
      unfold onesM at h3
      rw [if_pos rfl] at h3
      by_cases e : s i = s' i
      · omega
      · rw [if_neg e] at h3; omega
    rw [e1, e2]
theorem Made.parts {n m : Nat} {ps : List Part} (h : Made n m ps) : Parts n (cell ps) ps := ⟨h.per, fun q hq => (h.pos q hq).1, h.nd, fun _ _ _ _ => rfl⟩
theorem cut_last {α : Type} (l : List α) : cutD l none (some (-1)) = l.take (l.length - 1) := by
  unfold cutD
  have e1 : HT.sIx l.length 0 none = 0 := rfl
  have e2 : HT.sIx l.length l.length (some (-1)) = l.length - 1 := by
    have := HT.clip_eq (-1) l.length l.length
    rw [if_pos (by decide)] at this
    omega
  rw [e1, e2]; simp
theorem spOk_parts (ps : List Part) (h : ps.length ≤ 1000) : spOk 6 1 (.lst (ps.map pD)) = true := by
  have hi : ∀ l : List Int, (l.map D.int).all (spOk 3 0) = true := fun l => by
    rw [List.all_map, List.all_eq_true]; intro x _; rfl
  simp only [spOk, List.length_map, Bool.and_eq_true, decide_eq_true_eq]
  refine ⟨by omega, ?_⟩
  rw [List.all_map, List.all_eq_true]
  intro q _
  show spOk 5 0 (pD q) = true
  simp only [pD, tI, spOk, List.all_cons, List.all_nil, Bool.and_true, hi]
/-- three bad parts -/
theorem bad_short {n : Nat} {l : List Int} {v : Int} (h : l.length ≠ n) : ¬ Valid n (l, v) := fun hv => by
  have h1 := hv.per
  obtain ⟨s, e, _⟩ := h1
  exact h (by rw [show l = rowP n s from e, rowP, rowN_len])
theorem bad_big {n : Nat} {l : List Int} {v : Int} (h : ((n : Nat) : Int) ∈ l) : ¬ Valid n (l, v) := fun hv => by
  obtain ⟨s, e, hs⟩ := hv.per
  have e' : l = rowP n s := e
  rw [e'] at h
  obtain ⟨i, hi, e2⟩ := rowP_mem.mp h
  have := hs.1 i hi
  omega
theorem w_gSpoil (j : Nat) (g : Sl → R Vl) {S : Sl} (p : Po Out) : @Wp Out (gSpoil j g S) p = @Wp Vl (g S) ⟨fun x S1 => if (!x.b && spOk j x.k x.d) = true then p.ok .nx S1 else False, p.er⟩ := by
  unfold gSpoil
  rw [w_bind]
  refine po_congr_p fun x S1 => ?_
  rw [w_if]
  by_cases h : (!x.b && spOk j x.k x.d) = true
  · rw [if_pos h, if_pos h, w_ok]
  · rw [if_neg h, if_neg h, w_stuck]
theorem w_cut {α : Type} {r : R α} {p : Po α} (I : α → Sl → Prop) (h : @Wp α r ⟨I, noE⟩) (k : ∀ a S, I a S → p.ok a S) : @Wp α r p := w_mono h k fun _ _ _ h => h.elim

end VL

set_option Elab.async false
set_option linter.all false
set_option autoImplicit false
set_option maxRecDepth 100000
set_option maxHeartbeats 4000000
namespace VL
open PySem PySem.Spec L2
open PyProof.Rows hiding St
local macro_rules
  | `(tactic| simp_arith [$ts,*]) => `(tactic| simp only [↓w_ok, ↓w_err, ↓w_stuck, ↓w_if, ↓w_gD, ↓w_gV, ↓w_gOp, ↓w_gBool, ↓w_gCons, ↓w_gLst, ↓w_gTup, ↓w_gApp, ↓w_gApp1, ↓w_gNew1, ↓w_gOpV, ↓w_gIx, ↓w_gPart_n, ↓w_gPart_s, ↓w_gSl, ↓w_gNew2, ↓w_gCatT, ↓w_gTupOf, ↓w_gSeq, ↓w_gAnd, ↓w_gOr, ↓w_gNot, ↓w_gAndV, ↓w_gOrV, ↓w_gNotV, ↓w_gIfE, ↓w_gTru, ↓w_gThen, ↓w_gDrop, ↓w_gRet, ↓w_gIfS, ↓w_gSet, ↓w_gAsg, ↓w_gFor, ↓w_gArV, ↓w_gCall, ↓w_gCallP, ↓w_gLenSet, ↓w_gRaise, ↓w_gIt, ↓w_gEnum, ↓w_gLRange, ↓w_gArIo, ↓w_gIxN, ↓w_gApd, ↓w_gPopAt, ↓w_gSetIx, ↓w_gDPut, ↓w_gNeg, ↓w_gTRange, ↓w_gEnumS, ↓w_gDIx, ↓w_gDGet2, ↓w_gBest, ↓w_gLend, ↓w_gFzS, ↓w_gAug, ↓w_gExtV, ↓w_fn, ↓w_loop_c, loop_n,
      Nat.reduceEqDiff, reduceIte, Sl.wipe, wipeFrom, List.contains_cons, List.contains_nil, Nat.reduceBEq, Nat.reduceAdd, Nat.zero_add, beq_self_eq_true, seqV_t, seqV_l0, seqV_l1, u_gWalk, u_gVar, u_gC, u_gNil, u_gBor, u_gMov, u_gFrz, u_gYes, u_gNext, u_gBreak, u_gCont, u_gRetN, u_gArN, u_gPop, u_gDnewK, u_gDnewT, u_gListKeys, u_gRev, u_gaName, u_gaNil, u_gaCons, u_gaTup,
      put_0, put_s, List.getElem?_cons_zero, List.getElem?_cons_succ, List.cons_append, List.nil_append, List.replicate_succ, List.replicate_zero, keep_0, keep_f, keep_t, arg_n, arg_v, arg_io, allV_n, allV_v, okIo_n, okIo_v, okIo_i, idxIo_n, idxIo_v, idxIo_i, backSl, backFrom, Option.isNone_none, Option.isNone_some, Option.map_none, Option.map_some, lev_0, lev_1, lineOk,
      hI_int, hB_int, Bool.not_true, Bool.not_false, Bool.and_true, Bool.and_false, Bool.true_and, Bool.false_and, Bool.or_true, Bool.or_false, Bool.true_or, Bool.false_or, if_true, if_false, eq_self, true_and, and_true, Bool.false_eq_true, List.length_cons, List.length_nil, Nat.le_add_left, D.atom, itemsV, $ts,*])
abbrev nn : Cell := ⟨false, none⟩
abbrev vz (d : D) : Cell := ⟨false, some (0, d)⟩
theorem ans_eq : dEq true (.lst [.tup [.str "matrix", .str "square"], .tup [.str "matrix", .str "entries"], .tup [.str "matrix", .str "sums"]]) (.lst [.tup [.str "matrix", .str "square"], .tup [.str "matrix", .str "entries"], .tup [.str "matrix", .str "sums"]]) = some (.bl false) := dEq_self (by rfl) (by decide) true
theorem many_eq : dEq false (.tup [.str "many", .str "rows"]) (.tup [.str "many", .str "rows"]) = some (.bl true) := dEq_self (by rfl) (by decide) false
theorem one_eq (l : List Int) : dEq true (.lst [.tup [.tup (l.map D.int), .int 1]]) (.lst [.tup [.tup (l.map D.int), .int 1]]) = some (.bl false) := by
  have h := ok_lst pD 5 [(l, 1)] fun q _ => by
    have := ok_tI q.1
    refine ⟨by simp [pD, D.plain, D.plainL, this.1], ?_⟩
    have h2 := this.2
    simp only [pD, D.py, D.pyL, PyData.depth, PyData.depthAll]
    omega
  exact dEq_self h.1 (by have := h.2; show (D.lst (List.map pD [(l, 1)])).py.depth ≤ 60; omega) true
theorem cat_pD (A B : List Part) (h : A.length + B.length ≤ 1000) : dCat (.lst (A.map pD)) (.lst (B.map pD)) = some ((A ++ B).map pD) := by
  simp only [dCat, ← List.map_append]
  rw [if_pos (by simp [lineOk]; omega)]
theorem ix_pD (b : Bool) (L : List Part) (y : Int) (h0 : 0 ≤ y) (h1 : y < L.length) : ∃ q, q ∈ L ∧ L[y.toNat]? = some q ∧ ixV ⟨b, 0, .lst (L.map pD)⟩ (.int y) = some ⟨false, 0, pD q⟩ := by
  have hlt : y.toNat < L.length := by omega
  refine ⟨L[y.toNat], List.getElem_mem hlt, by simp [hlt], ?_⟩
  obtain ⟨m, rfl⟩ := Int.eq_ofNat_of_zero_le h0
  simp only [Int.toNat_natCast] at hlt ⊢
  simp only [ixV, atI_nat (xs := L.map pD) (by simpa using hlt), Option.map_some, elemV, Nat.zero_le, decide_true, Bool.true_or, if_true, List.getElem_map]
theorem cutT (L : List Part) (y : Int) (h0 : 0 ≤ y) (h1 : y < L.length) : cutD (L.map pD) none (some y) = (L.take y.toNat).map pD := by
  obtain ⟨m, rfl⟩ := Int.eq_ofNat_of_zero_le h0
  rw [cutD_take (by simp; omega), Int.toNat_natCast, List.map_take]
theorem cutR (L : List Part) (y : Int) (h0 : 0 ≤ y) (h1 : y < L.length) : cutD (L.map pD) (some (y + 1)) none = (L.drop (y.toNat + 1)).map pD := by
  obtain ⟨m, rfl⟩ := Int.eq_ofNat_of_zero_le h0
  have : ((m : Nat) : Int) + 1 = ((m + 1 : Nat) : Int) := by omega
  rw [this, cutD_drop (by simp; omega), Int.toNat_natCast, List.map_drop]
theorem law_true (K : PySem.W.Frag) (ev : Ev) (hne : ev.cInvalidMatrix ≠ ev.cTooMany) (a : Addr) (ns : List Int) (hns : ns.length ≤ 63) :
    ∃ S', g_law K ev (⟨false, some (0, .kl K a ns)⟩ :: List.replicate (N_law.length - 1) ⟨false, none⟩) = .ok (.rt (.fzn (.bl true))) S' := by
  suffices h : @Wp Out (g_law K ev (⟨false, some (0, .kl K a ns)⟩ :: List.replicate (N_law.length - 1) ⟨false, none⟩)) ⟨fun x _ => x = .rt ⟨false, 0, .bl true⟩, noE⟩ by
    cases hr : g_law K ev (⟨false, some (0, .kl K a ns)⟩ :: List.replicate (N_law.length - 1) ⟨false, none⟩) with
    | stuck => rw [hr] at h; simp only [w_stuck] at h
    | err a w s => rw [hr] at h; simp only [w_err] at h; exact h.elim
    | ok x s =>
      rw [hr] at h
      simp only [w_ok] at h
      exact ⟨s, by rw [h]⟩
  have hN : N_law.length - 1 = 18 := rfl
  rw [hN]
  obtain ⟨ms, T', ed, _⟩ := deck_ok K ev a ns hns
  unfold g_law
  simp_arith []
  refine w_to ed ?_
  simp_arith []
  obtain ⟨r, m1, r0, r1, _, e1⟩ := take_ok K ev ms 6 (by decide)
  refine w_to e1 ?_
  simp_arith [Vl.fzn, gt_int, -w_gIfE]
  obtain ⟨n, rfl⟩ := Int.eq_ofNat_of_zero_le r0
  have hn : n ≤ 5 := by omega
  refine w_cut (fun (x : Vl) S => ∃ ps m2, Made n 4 ps ∧ (n = 0 → ps = []) ∧ x = ⟨false, 1, .lst (ps.map pD)⟩ ∧ S = [vz (.kl K a ns), ⟨false, some (1, lI m2)⟩, vz (.int (n : Nat)), nn, nn, nn, nn, nn, nn, nn, nn, nn, nn, nn, nn, nn, nn, nn, nn]) ?_ ?_
  · by_cases h0 : n = 0
    · subst h0
      simp_arith [gt_int]
      rw [if_neg (by decide), if_pos (by decide)]
      exact ⟨[], m1, ⟨fun _ h => by simp at h, fun _ h => by simp at h, by simp, by simp, by simp⟩, fun _ => rfl, rfl, rfl⟩
    · simp_arith [gt_int]
      rw [if_pos (by simp; omega)]
      obtain ⟨ps, m2, hM, _, e2⟩ := made_ok K ev m1 n (by omega)
      refine w_to e2 ?_
      simp_arith []
      exact ⟨ps, m2, hM, fun h => absurd h h0, rfl, rfl⟩
  · rintro x S ⟨ps, m2, hM, _, rfl, rfl⟩
    have hMP := hM.parts
    have bal := parts_bal ps hM.per fun q hq => (hM.pos q hq).1
    generalize ht : (ps.map (·.2)).sum = t at bal
    have ht1 : 0 ≤ t ∧ t ≤ 16 := ⟨by have := len_sum ps fun q hq => (hM.pos q hq).1; omega, by have := hM.sum; omega⟩
    simp_arith []
    refine w_lcO (fun i : Nat => .int (i : Nat)) (fun i => lI (rowN n fun _ => 0)) (List.range n) ?_ (by rfl) (by simp; omega) (fun i hi => ?_) ?_
    · simp_arith [range1_nat (n := n) (by omega)]
    · simp only [Sl.wipe, wipeFrom, List.contains_cons, List.contains_nil, Nat.reduceBEq, Nat.reduceAdd, Nat.zero_add, beq_self_eq_true, u_gaName, Bool.or_false, if_true, Bool.false_eq_true, if_false, List.getElem?_cons_succ, List.getElem?_cons_zero, put_0, put_s]
      exact w_to (gRep0n 2 n (by omega) rfl) rfl
    simp_arith []
    refine w_loop pD (fun pre S => ∃ (w5 w6 w12 : Option D), S = [vz (.kl K a ns), ⟨false, some (1, lI m2)⟩, vz (.int (n : Nat)), vz (.lst (ps.map pD)), ⟨false, some (2, mt lI n (cell pre))⟩, ⟨false, w5.map fun d => (0, d)⟩, ⟨false, w6.map fun d => (0, d)⟩, nn, nn, nn, nn, nn, ⟨false, w12.map fun d => (0, d)⟩, nn, nn, nn, nn, nn, nn]) (pre := [])
      ⟨none, none, none, ?_⟩ (fun pre q r S he hS => ?_) (fun S hS => ?_)
    · simp [cell, mt]
      intro a _
      rfl
    · obtain ⟨w5, w6, w12, rfl⟩ := hS
      have hqm : q ∈ ps := by
        have : q ∈ [] ++ ps := by rw [he]; simp
        simpa using this
      obtain ⟨s, es, hs⟩ := hM.per q hqm
      simp_arith [pD, range1_nat (n := n) (by omega)]
      refine w_loopN (fun i : Nat => .int (i : Nat)) (fun k S => ∃ (w12 : Option D), S = [vz (.kl K a ns), ⟨false, some (1, lI m2)⟩, vz (.int (n : Nat)), vz (.lst (ps.map pD)), ⟨false, some (2, mt lI n fun a b => if a < k ∧ b = s a then cell pre a b + q.2 else cell pre a b)⟩, vz (tI q.1), vz (.int q.2), nn, nn, nn, nn, nn, ⟨false, w12.map fun d => (0, d)⟩, nn, nn, nn, nn, nn, nn]) ⟨w12, ?_⟩ (fun k S hk hS => ?_) (fun S hS => ?_)
      · simp
      · obtain ⟨w12, rfl⟩ := hS
        simp_arith []
        have hix : ∀ b : Bool, ixV ⟨b, 0, tI q.1⟩ (.int (k : Nat)) = some ⟨false, 0, .int (s k : Nat)⟩ := fun b => by rw [es]; exact ix_tI hk
        refine w_to (setPl_mt (n := n) (r := k) (c := s k) (z := (if k < k ∧ s k = s k then cell pre k (s k) + q.2 else cell pre k (s k)) + q.2) rfl ?_ rfl ?_ hk (hs.1 k hk)) ?_
        · apply w_eq
          simp_arith [ix_mt2 hk, hix, ix_lI0 (Nat.le_refl 1) (hs.1 k hk)]
        · apply w_eq
          simp_arith [hix]
        · simp_arith []
          refine ⟨some (.int (k : Nat)), ?_⟩
          simp only [Option.map_some]
          have e1 := add_step (n := n) (k := k) (N := q.2) (g := fun a b => cell pre a b) (s := s)
          rw [e1]
      · obtain ⟨w12, rfl⟩ := hS
        simp_arith []
        refine ⟨some (tI q.1), some (.int q.2), w12, ?_⟩
        have e2 := add_done (n := n) (N := q.2) (pre := pre) (s := s)
        have e3 : (rowP n s, q.2) = q := by rw [← es]
        rw [e3] at e2
        rw [e2]
        rfl
    · obtain ⟨w5, w6, w12, rfl⟩ := hS
      simp_arith []
      obtain ⟨told, hT, htl, e3⟩ := parts_ok K ev (.inr rfl) bal (by omega) (by omega)
      have hTs := hT.short bal (by omega)
      have hTr : ∀ q ∈ told, q.1.length ≤ 1000 := fun q hq => by rw [hT.row hq]; omega
      refine w_lc (fun i => lI (rowN n (cell ps i))) (fun _ => true) (fun i => tI (rowN n (cell ps i))) (List.range n) ?_ (by rfl) (by simp; omega) (fun i hi => ?_) ?_
      · simp_arith [mt]
      · simp_arith [lI, tI, forall_const]
      simp_arith [filter_tt, ↓w_gSpoil]
      refine w_to e3 ?_
      simp_arith [spOk_parts told htl]
      refine w_to e3 ?_
      have hisi : dIsi [.lst (told.map pD), .ty "list"] = some (.bl true) := rfl
      simp_arith [hisi, truD]
      obtain ⟨b1, hb1, e4⟩ := isparts_ok K ev (n := n) (f := cell ps) (by omega) told (by omega) hTr
      have hb1' : b1 = true := hb1.mpr hT.is
      subst hb1'
      refine w_to e4 ?_
      simp_arith [truD]
      refine w_to (plain_parts K ev told (by omega) hTr) ?_
      simp_arith []
      refine w_lc pD (fun _ => true) pD told ?_ (by cases w5 <;> cases w6 <;> rfl) (by omega) (fun q hq => ?_) ?_
      · simp_arith []
      · simp_arith [pD, tI, dInt, forall_const]
        decide
      simp_arith [filter_tt]
      refine w_to (plain_parts K ev told (by omega) hTr) ?_
      simp_arith [plain_eq]
      obtain ⟨b2, hb2, e5⟩ := judge_ok K ev (.inr rfl) bal (by omega) told (by omega) hTr
      have hb2' : b2 = true := hb2.mpr hT.is
      subst hb2'
      refine w_to e5 ?_
      have hib : dIsBl true (.bl true) (.bl true) = some (.bl false) := rfl
      simp_arith [hib]
      have hPr : ∀ q ∈ ps, q.1.length ≤ 1000 := fun q hq => by rw [hMP.row hq]; omega
      have hPs : ps.length ≤ 4 := hM.len
      obtain ⟨b3, hb3, e6⟩ := judge_ok K ev (.inl rfl) bal (by omega) ps (by omega) hPr
      have hb3' : b3 = true := hb3.mpr hMP.is
      subst hb3'
      refine w_to e6 ?_
      simp_arith [hib, -w_gIfS]
      refine w_cut (fun (o : Out) S => o = .nx ∧ ∃ (m3 : List Int) (w12 w13 w14 w15 w16 : Option D), S = [vz (.kl K a ns), ⟨false, some (1, lI m3)⟩, vz (.int (n : Nat)), vz (.lst (ps.map pD)), vz (mt lI n (cell ps)), ⟨false, w5.map fun d => (0, d)⟩, ⟨false, w6.map fun d => (0, d)⟩, vz (mt tI n (cell ps)), vz (.lst (told.map pD)), nn, nn, nn, ⟨false, w12.map fun d => (0, d)⟩, ⟨false, w13.map fun d => (0, d)⟩, ⟨false, w14.map fun d => (0, d)⟩, ⟨false, w15.map fun d => (0, d)⟩, ⟨false, w16.map fun d => (0, d)⟩, nn, nn]) ?_ ?_
      · by_cases h0 : 0 < n
        · simp_arith [gt_int]
          rw [if_pos (by simp; omega)]
          obtain ⟨s, m3, hs, _, f1⟩ := order_ok K ev m2 n (by omega)
          refine w_to f1 ?_
          simp_arith [lI]
          have hsx : ∀ (b : Bool) (i : Nat), i < n → ixV ⟨b, 0, .tup ((rowP n s).map D.int)⟩ (.int (i : Nat)) = some ⟨false, 0, .int (s i : Nat)⟩ := fun b i hi => ix_tI hi
          refine w_lc (fun i : Nat => .int (i : Nat)) (fun _ => true) (fun i => lI (rowN n (onesM s i))) (List.range n) ?_ (by cases w12 <;> rfl) (by simp; omega) (fun i hi => ?_) ?_
          · simp_arith [range1_nat (n := n) (by omega)]
          · simp_arith [forall_const]
            refine w_lc (fun i : Nat => .int (i : Nat)) (fun _ => true) (fun j => .int (onesM s i j)) (List.range n) ?_ (by rfl) (by simp; omega) (fun j hj => ?_) ?_
            · simp_arith [range1_nat (n := n) (by omega)]
            · simp_arith [hsx _ i (List.mem_range.mp hi), dEq_int, dInt, forall_const]
              unfold onesM
              by_cases e : s i = j
              · subst e; simp
              · have : ¬ ((s i : Nat) : Int) = (j : Int) := by omega
                simp [e, this]
            · simp_arith [filter_tt, lI_row]
          simp_arith [filter_tt]
          obtain ⟨sp, hsp, _, f2⟩ := parts_ok K ev (.inl rfl) (ones_bal hs) (by omega) (by omega)
          have hsp1 := one_part h0 hs hsp
          subst hsp1
          refine w_to f2 ?_
          simp_arith [List.map_cons, List.map_nil, pD, tI, Nat.reduceLeDiff, decide_true, one_eq, dList]
          obtain ⟨x, m5, x0, x1, _, f3⟩ := take_ok K ev m3 3 (by decide)
          simp only [lI] at f3
          refine w_to f3 ?_
          have hc1 : dCat (.lst (told.map pD)) (.lst [.tup [.tup ((rowP n s).map D.int), .int (x - 1)]]) = some ((told ++ [(rowP n s, x - 1)]).map pD) := cat_pD told [(rowP n s, x - 1)] (by simp; omega)
          simp_arith [Vl.fzn, Nat.reduceLeDiff, decide_true, hc1, -w_gIfS]
          have hrl : (rowP n s).length = n := by rw [rowP, rowN_len]
          refine w_cut (fun (o : Out) S => o = .nx ∧ ∃ (m6 : List Int) (w12 : Option D) (cs : List Part), (∀ q ∈ cs, q.1.length ≤ 1000) ∧ cs.length < 64 ∧ S = [vz (.kl K a ns), ⟨false, some (1, lI m6)⟩, vz (.int (n : Nat)), vz (.lst (ps.map pD)), vz (mt lI n (cell ps)), ⟨false, w5.map fun d => (0, d)⟩, ⟨false, w6.map fun d => (0, d)⟩, vz (mt tI n (cell ps)), vz (.lst (told.map pD)), nn, nn, nn, ⟨false, w12.map fun d => (0, d)⟩, vz (tI (rowP n s)), vz (mt lI n (onesM s)), vz (.lst (cs.map pD)), nn, nn, nn]) ?_ ?_
          · have hcs : ∀ q ∈ told ++ [(rowP n s, x - 1)], q.1.length ≤ 1000 := fun q hq => by
              rcases List.mem_append.mp hq with h | h
              · exact hTr q h
              · have e : q = (rowP n s, x - 1) := by simpa using h
                rw [e]; show (rowP n s).length ≤ 1000; omega
            have base : ∀ (m : List Int) (w12 : Option D), ∃ (m6 : List Int) (w12' : Option D) (cs : List Part), (∀ q ∈ cs, q.1.length ≤ 1000) ∧ cs.length < 64 ∧ [vz (.kl K a ns), ⟨false, some (1, .lst (m.map D.int))⟩, vz (.int (n : Nat)), vz (.lst (ps.map pD)), ⟨false, some (0, mt lI n (cell ps))⟩, ⟨false, w5.map fun d => (0, d)⟩, ⟨false, w6.map fun d => (0, d)⟩, ⟨false, some (0, .lst ((List.range n).map fun i => .tup ((rowN n (cell ps i)).map D.int)))⟩, ⟨false, some (0, .lst (told.map pD))⟩, nn, nn, nn, ⟨false, w12.map fun d => (0, d)⟩, ⟨false, some (0, .tup ((rowP n s).map D.int))⟩, ⟨false, some (0, .lst ((List.range n).map fun i => lI (rowN n (onesM s i))))⟩, ⟨false, some (0, .lst ((told ++ [(rowP n s, x - 1)]).map pD))⟩, nn, nn, nn] = [vz (.kl K a ns), ⟨false, some (1, lI m6)⟩, vz (.int (n : Nat)), vz (.lst (ps.map pD)), vz (mt lI n (cell ps)), ⟨false, w5.map fun d => (0, d)⟩, ⟨false, w6.map fun d => (0, d)⟩, vz (mt tI n (cell ps)), vz (.lst (told.map pD)), nn, nn, nn, ⟨false, w12'.map fun d => (0, d)⟩, vz (tI (rowP n s)), vz (mt lI n (onesM s)), vz (.lst (cs.map pD)), nn, nn, nn] :=
              fun m w12 => ⟨m, w12, told ++ [(rowP n s, x - 1)], hcs, by simp; omega, rfl⟩
            simp_arith [dLen_lst, List.length_map, gt_int]
            by_cases hl : 0 < told.length
            · rw [if_pos (by simp; omega)]
              obtain ⟨z, m6, z0, z1, _, f4⟩ := take_ok K ev m5 2 (by decide)
              simp only [lI] at f4
              refine w_to f4 ?_
              simp_arith [Vl.fzn, dEq_int]
              by_cases hz : (z == 0) = true
              · rw [if_pos hz]
                obtain ⟨y, m7, y0, y1, _, f5⟩ := take_ok K ev m6 (told.length : Int) (by omega)
                simp only [lI] at f5
                simp_arith [dLen_lst, List.length_map]
                refine w_to f5 ?_
                obtain ⟨q, hqm, hq, hqx⟩ := ix_pD true told y y0 y1
                have hq0 : ∀ b : Bool, ixV ⟨b, 0, pD q⟩ (.int 0) = some ⟨false, 0, .tup (q.1.map D.int)⟩ := fun b => rfl
                have hq1 : ∀ b : Bool, ixV ⟨b, 0, pD q⟩ (.int 1) = some ⟨false, 0, .int q.2⟩ := fun b => rfl
                simp_arith [Vl.fzn, slV, cutT told y y0 y1, hqx, hq0, hq1]
                obtain ⟨u, m8, u0, u1, _, f6⟩ := take_ok K ev m7 3 (by decide)
                simp only [lI] at f6
                refine w_to f6 ?_
                have hlt : y.toNat < told.length := by omega
                have hc2 : dCat (.lst ((told.take y.toNat).map pD)) (.lst [.tup [.tup (q.1.map D.int), .int (q.2 + u - 1)]]) = some ((told.take y.toNat ++ [(q.1, q.2 + u - 1)]).map pD) := cat_pD (told.take y.toNat) [(q.1, q.2 + u - 1)] (by simp; omega)
                have hc3 : dCat (.lst ((told.take y.toNat ++ [(q.1, q.2 + u - 1)]).map pD)) (.lst ((told.drop (y.toNat + 1)).map pD)) = some ((told.take y.toNat ++ [(q.1, q.2 + u - 1)] ++ told.drop (y.toNat + 1)).map pD) := cat_pD _ _ (by simp; omega)
                simp_arith [Vl.fzn, slV, Nat.reduceLeDiff, decide_true, hc2, cutR told y y0 y1, hc3]
                refine ⟨m8, some (.int y), told.take y.toNat ++ [(q.1, q.2 + u - 1)] ++ told.drop (y.toNat + 1), fun q' hq' => ?_, by simp; omega, rfl⟩
                rcases List.mem_append.mp hq' with h | h
                · rcases List.mem_append.mp h with h | h
                  · exact hTr q' (List.mem_of_mem_take h)
                  · have e : q' = (q.1, q.2 + u - 1) := by simpa using h
                    rw [e]; exact hTr q hqm
                · exact hTr q' (List.mem_of_mem_drop h)
              · rw [if_neg hz]
                exact base m6 w12
            · rw [if_neg (by rw [decide_eq_true_eq]; omega)]
              exact base m5 w12
          · rintro o S ⟨rfl, m6, w12, cs, hcr, hcl, rfl⟩
            simp_arith []
            obtain ⟨b5, hb5, g1⟩ := judge_ok K ev (.inl rfl) bal (by omega) cs hcl hcr
            obtain ⟨b6, hb6, g2⟩ := isparts_ok K ev (n := n) (f := cell ps) (by omega) cs hcl hcr
            have h56 : b5 = b6 := by
              cases b5 <;> cases b6
              · rfl
              · exact absurd (hb5.mpr (hb6.mp rfl)) (by decide)
              · exact absurd (hb6.mpr (hb5.mp rfl)) (by decide)
              · rfl
            subst h56
            refine w_to g1 ?_
            simp_arith []
            obtain ⟨z, T2, g3⟩ := plain_bool K ev b5
            refine w_to g3 ?_
            simp_arith []
            refine w_to g2 ?_
            simp_arith []
            refine w_to g3 ?_
            simp_arith [dEq_str]
            obtain ⟨y, m7, y0, y1, _, g4⟩ := take_ok K ev m6 3 (by decide)
            have hsl : slV ⟨false, 0, .tup ((rowP n s).map D.int)⟩ none (some (-1)) = some ⟨false, 0, .tup (((rowP n s).take (n - 1)).map D.int)⟩ := by
              show some (Vl.fzn (.tup (cutD ((rowP n s).map D.int) none (some (-1))))) = _
              rw [cut_last, List.length_map, hrl, List.map_take]
            have hk1 : decide (((rowP n s).map D.int ++ [D.int 0]).length ≤ 16777216) = true := by rw [decide_eq_true_eq]; simp; omega
            have hk2 : decide ((((rowP n s).take (n - 1)).map D.int ++ [D.int (n : Nat)]).length ≤ 16777216) = true := by rw [decide_eq_true_eq]; simp; omega
            have key : ∃ bq : Part, ¬ Valid n bq ∧ bq.1.length ≤ 1000 ∧ ixV ⟨false, 1, .lst [.tup [.tup (((rowP n s).take (n - 1)).map D.int), .int 1], .tup [.tup ((rowP n s).map D.int ++ [D.int 0]), .int 1], .tup [.tup (((rowP n s).take (n - 1)).map D.int ++ [D.int (n : Nat)]), .int 1]]⟩ (.int y) = some ⟨false, 0, pD bq⟩ := by
              have h3 : y = 0 ∨ y = 1 ∨ y = 2 := by omega
              rcases h3 with rfl | rfl | rfl
              · exact ⟨((rowP n s).take (n - 1), 1), bad_short (by simp [hrl]; omega), by simp [hrl]; omega, rfl⟩
              · exact ⟨(rowP n s ++ [0], 1), bad_short (by simp [hrl]), by simp [hrl]; omega, by
                  simp only [pD, tI, List.map_append, List.map_cons, List.map_nil]
                  rfl⟩
              · exact ⟨((rowP n s).take (n - 1) ++ [(n : Int)], 1), bad_big (by simp), by simp [hrl]; omega, by
                  simp only [pD, tI, List.map_append, List.map_cons, List.map_nil]
                  rfl⟩
            obtain ⟨bq, hbq, hbl, hbx⟩ := key
            simp_arith [tI, hsl, hk1, hk2, Nat.reduceLeDiff, decide_true]
            refine w_to g4 ?_
            simp_arith [Vl.fzn, hbx]
            have hc4 : dCat (.lst (told.map pD)) (.lst [pD bq]) = some ((told ++ [bq]).map pD) := cat_pD told [bq] (by simp; omega)
            simp_arith [Nat.reduceLeDiff, decide_true, hc4]
            obtain ⟨b7, hb7, g5⟩ := judge_ok K ev (.inl rfl) bal (by omega) (told ++ [bq]) (by simp; omega) (fun q hq => by
              rcases List.mem_append.mp hq with h | h
              · exact hTr q h
              · have e : q = bq := by simpa using h
                rw [e]; exact hbl)
            have hb7' : b7 = false := by
              cases b7 with
              | false => rfl
              | true => exact absurd ((hb7.mp rfl).val bq (by simp)) hbq
            subst hb7'
            refine w_to g5 ?_
            have hib3 : dIsBl true (.bl false) (.bl false) = some (.bl false) := rfl
            simp_arith [hib3]
            exact ⟨m7, w12, some _, some _, some _, some _, rfl⟩
        · simp_arith [gt_int]
          rw [if_neg (by simp; omega)]
          exact ⟨m2, w12, none, none, none, none, rfl⟩
      · rintro o S ⟨rfl, m3, w12, w13, w14, w15, w16, rfl⟩
        simp_arith []
        obtain ⟨r, m4, r0, r1, _, e7⟩ := take_ok K ev m3 2 (by decide)
        refine w_to e7 ?_
        simp_arith [Vl.fzn, Nat.reduceLeDiff, decide_true]
        refine w_to (why_err (csA K ev) r) ?_
        simp_arith [Nat.reduceLeDiff, decide_true]
        refine w_to (why_err (csB K ev) r) ?_
        simp_arith [Nat.reduceLeDiff, decide_true]
        refine w_to (why_err (csC K ev) r) ?_
        simp_arith [Nat.reduceLeDiff, decide_true, ans_eq]
        have hr7 : dRange1 [.int 7] = some ((List.range 7).map fun i : Nat => D.int (i : Nat)) := range1_nat (n := 7) (by decide)
        have hr7' : dLRange [.int 7] = some ((List.range 7).map fun i : Nat => D.int (i : Nat)) := rangeI 7 (by decide)
        have p7 : Per 7 id := ⟨fun i h => h, fun i j _ _ e => e⟩
        refine w_lc (fun i : Nat => .int (i : Nat)) (fun _ => true) (fun i => lI (rowN 7 (onesM id i))) (List.range 7) ?_ (by rfl) (by decide) (fun i hi => ?_) ?_
        · simp_arith [hr7]
        · simp_arith [forall_const]
          refine w_lc (fun i : Nat => .int (i : Nat)) (fun _ => true) (fun j => .int (onesM id i j)) (List.range 7) ?_ (by rfl) (by decide) (fun j hj => ?_) ?_
          · simp_arith [hr7]
          · simp_arith [dEq_int, dInt, forall_const]
            unfold onesM
            by_cases e : i = j
            · subst e; simp
            · have : ¬ ((i : Int) = (j : Int)) := by omega
              simp [e, this]
          · simp_arith [filter_tt, lI_row]
        simp_arith [filter_tt]
        refine w_to (why_many hne (ones_bal p7) (by decide) (by decide)) ?_
        simp_arith [Nat.reduceLeDiff, decide_true]
        obtain ⟨b4, hb4, e8⟩ := judge_ok K ev (.inl rfl) (ones_bal p7) (by decide) [(rowP 7 id, 1)] (by decide) (fun q hq => by
          have e : q = (rowP 7 id, 1) := by simpa using hq
          rw [e]; decide)
        have hb4' : b4 = true := hb4.mpr ⟨fun q hq => by
          have e : q = (rowP 7 id, 1) := by simpa using hq
          rw [e]; exact ⟨p7.valid, Int.le_refl 1⟩, by simp, fun i j hi hj => ones_cell hi⟩
        subst hb4'
        have hib2 : dIsBl false (.bl true) (.bl true) = some (.bl true) := rfl
        simp_arith [many_eq, hr7', Nat.reduceLeDiff, decide_true]
        rw [rngI]
        refine w_to e8 ?_
        simp_arith [hib2]

end VL

set_option Elab.async false
set_option linter.all false
set_option autoImplicit false
set_option maxRecDepth 100000
set_option maxHeartbeats 8000000
namespace VL
open PySem PySem.Spec L2
open PyProof.Rows hiding St
abbrev s_init_InvalidMatrix : Stmt := inClass (top 3) 0
abbrev s_init_TooMany : Stmt := inClass (top 4) 0
theorem exm_self {K : PySem.W.Frag} {S : Addr} (h1 : PySem.W.subIn K (.ref S) (.type "BaseException") = some true) (h2 : PySem.W.isClsIn K S = true) (h3 : PySem.W.typeIn K (.ref S) = some (.type "type")) (h4 : PySem.W.subIn K (.ref S) (.ref S) = some true) : PySem.W.exmOne K (.ref S) (.ref S) = some true := by
  have e1 : (PySem.W.subIn K (.ref S) (.type "BaseException") == some true) = true := by rw [h1]; rfl
  have e2 : ((PySem.W.clsIn K S).isSome && PySem.W.typeIn K (.ref S) == some (.type "type")) = true := by
    rw [show (PySem.W.clsIn K S).isSome = true from h2, h3]; rfl
  unfold PySem.W.exmOne PySem.W.kitCls
  rw [if_pos e1]
  show (if ((PySem.W.clsIn K S).isSome && PySem.W.typeIn K (.ref S) == some (.type "type")) = true then PySem.W.subIn K (.ref S) (.ref S) else none) = some true
  rw [if_pos e2]
  exact h4
theorem exm_of {K : PySem.W.Frag} {C S : Addr} (h1 : PySem.W.subIn K (.ref S) (.type "BaseException") = some true) (h2 : PySem.W.isClsIn K S = true) (h3 : PySem.W.typeIn K (.ref S) = some (.type "type")) (h4 : PySem.W.subIn K (.ref C) (.ref S) = some true) : PySem.W.exmOne K (.ref C) (.ref S) = some true := by
  have e1 : (PySem.W.subIn K (.ref S) (.type "BaseException") == some true) = true := by rw [h1]; rfl
  have e2 : ((PySem.W.clsIn K S).isSome && PySem.W.typeIn K (.ref S) == some (.type "type")) = true := by
    rw [show (PySem.W.clsIn K S).isSome = true from h2, h3]; rfl
  unfold PySem.W.exmOne PySem.W.kitCls
  rw [if_pos e1]
  show (if ((PySem.W.clsIn K S).isSome && PySem.W.typeIn K (.ref S) == some (.type "type")) = true then PySem.W.subIn K (.ref C) (.ref S) else none) = some true
  rw [if_pos e2]
  exact h4
theorem kit_self {K : PySem.W.Frag} {C : Addr} : PySem.W.kitOne K (.ref C) (.ref C) = some true := by
  unfold PySem.W.kitOne
  rw [if_pos (by simp)]
theorem kit_no {K : PySem.W.Frag} {C S : Addr} (h0 : PySem.W.subIn K (.ref C) (.ref C) = some true) (h2 : PySem.W.isClsIn K S = true) (h3 : PySem.W.typeIn K (.ref S) = some (.type "type")) (h4 : PySem.W.subIn K (.ref C) (.ref S) = some false) : PySem.W.kitOne K (.ref C) (.ref S) = some false := by
  have hne : C ≠ S := fun e => by rw [← e, h0] at h4; cases h4
  have e2 : ((PySem.W.clsIn K S).isSome && PySem.W.typeIn K (.ref S) == some (.type "type")) = true := by
    rw [show (PySem.W.clsIn K S).isSome = true from h2, h3]; rfl
  unfold PySem.W.kitOne PySem.W.kitCls
  rw [if_neg (by simpa using hne)]
  show (if ((PySem.W.clsIn K S).isSome && PySem.W.typeIn K (.ref S) == some (.type "type")) = true then PySem.W.subIn K (.ref C) (.ref S) else none) = some false
  rw [if_pos e2]
  exact h4
theorem all_mk {l : PySem.W.OpenLaw} {w : World} {K : PySem.W.Frag} {h : Heap} {mg : Str → Option Value} {fa B : Addr}
  {C_InvalidMatrix fI_InvalidMatrix : Addr} {nm_InvalidMatrix q_InvalidMatrix : Str} {NN_InvalidMatrix : Addr} {bs_InvalidMatrix : List Value} {sn_InvalidMatrix : List Str} {sub_InvalidMatrix : List Value} {ab_InvalidMatrix : Bool} {col_InvalidMatrix : Option Bool} {dd_InvalidMatrix : Option Addr} {m0_InvalidMatrix m1_InvalidMatrix m2_InvalidMatrix m3_InvalidMatrix m5_InvalidMatrix : Option Value} {od_InvalidMatrix an_InvalidMatrix : Option Addr} {sl_InvalidMatrix : Array (Option Value)} {oc_InvalidMatrix kV_InvalidMatrix dc_InvalidMatrix pm_InvalidMatrix cd_InvalidMatrix ct_InvalidMatrix : Value}
  {C_TooMany fI_TooMany : Addr} {nm_TooMany q_TooMany : Str} {NN_TooMany : Addr} {bs_TooMany : List Value} {sn_TooMany : List Str} {sub_TooMany : List Value} {ab_TooMany : Bool} {col_TooMany : Option Bool} {dd_TooMany : Option Addr} {m0_TooMany m1_TooMany m2_TooMany m3_TooMany m5_TooMany : Option Value} {od_TooMany an_TooMany : Option Addr} {sl_TooMany : Array (Option Value)} {oc_TooMany kV_TooMany dc_TooMany pm_TooMany cd_TooMany ct_TooMany : Value}
  {C_InvalidVector : Addr}
  {f_flaw_deck : Addr} {od_flaw_deck an_flaw_deck : Option Addr} {sl_flaw_deck : Array (Option Value)} {oc_flaw_deck kV_flaw_deck dc_flaw_deck pm_flaw_deck cd_flaw_deck ct_flaw_deck : Value}
  {f_flaw_is_parts : Addr} {od_flaw_is_parts an_flaw_is_parts : Option Addr} {sl_flaw_is_parts : Array (Option Value)} {oc_flaw_is_parts kV_flaw_is_parts dc_flaw_is_parts pm_flaw_is_parts cd_flaw_is_parts ct_flaw_is_parts : Value}
  {f_flaw_take : Addr} {od_flaw_take an_flaw_take : Option Addr} {sl_flaw_take : Array (Option Value)} {oc_flaw_take kV_flaw_take dc_flaw_take pm_flaw_take cd_flaw_take ct_flaw_take : Value}
  {f_flaw_order : Addr} {od_flaw_order an_flaw_order : Option Addr} {sl_flaw_order : Array (Option Value)} {oc_flaw_order kV_flaw_order dc_flaw_order pm_flaw_order cd_flaw_order ct_flaw_order : Value}
  {f_flaw_put : Addr} {od_flaw_put an_flaw_put : Option Addr} {sl_flaw_put : Array (Option Value)} {oc_flaw_put kV_flaw_put dc_flaw_put pm_flaw_put cd_flaw_put ct_flaw_put : Value}
  {f_flaw_made : Addr} {od_flaw_made an_flaw_made : Option Addr} {sl_flaw_made : Array (Option Value)} {oc_flaw_made kV_flaw_made dc_flaw_made pm_flaw_made cd_flaw_made ct_flaw_made : Value}
  {f_flaw_plain : Addr} {od_flaw_plain an_flaw_plain : Option Addr} {sl_flaw_plain : Array (Option Value)} {oc_flaw_plain kV_flaw_plain dc_flaw_plain pm_flaw_plain cd_flaw_plain ct_flaw_plain : Value}
  {f_fcheck_square : Addr} {od_fcheck_square an_fcheck_square : Option Addr} {sl_fcheck_square : Array (Option Value)} {oc_fcheck_square kV_fcheck_square dc_fcheck_square pm_fcheck_square cd_fcheck_square ct_fcheck_square : Value}
  {f_fjudge_parts : Addr} {od_fjudge_parts an_fjudge_parts : Option Addr} {sl_fjudge_parts : Array (Option Value)} {oc_fjudge_parts kV_fjudge_parts dc_fjudge_parts pm_fjudge_parts cd_fjudge_parts ct_fjudge_parts : Value}
  {f_fleast_permutation : Addr} {od_fleast_permutation an_fleast_permutation : Option Addr} {sl_fleast_permutation : Array (Option Value)} {oc_fleast_permutation kV_fleast_permutation dc_fleast_permutation pm_fleast_permutation cd_fleast_permutation ct_fleast_permutation : Value}
  {f_fparts_of_square : Addr} {od_fparts_of_square an_fparts_of_square : Option Addr} {sl_fparts_of_square : Array (Option Value)} {oc_fparts_of_square kV_fparts_of_square dc_fparts_of_square pm_fparts_of_square cd_fparts_of_square ct_fparts_of_square : Value}
  {f_flaw_why : Addr} {od_flaw_why an_flaw_why : Option Addr} {sl_flaw_why : Array (Option Value)} {oc_flaw_why kV_flaw_why dc_flaw_why pm_flaw_why cd_flaw_why ct_flaw_why : Value}
  {f_flaw : Addr} {od_flaw an_flaw : Option Addr} {sl_flaw : Array (Option Value)} {oc_flaw kV_flaw dc_flaw pm_flaw cd_flaw ct_flaw : Value}
  {f_flaw_spoil : Addr} {od_flaw_spoil an_flaw_spoil : Option Addr} {sl_flaw_spoil : Array (Option Value)} {oc_flaw_spoil kV_flaw_spoil dc_flaw_spoil pm_flaw_spoil cd_flaw_spoil ct_flaw_spoil : Value}
  (X : K.In h) (G : h.Ns mainGlobals mg) (hfa : mg "law" = some (.ref fa))
  (xB : PySem.W.nsIn K mainGlobals "PolyError" = some (some (.ref B)))
  (xsB : PySem.W.specialIn K (.ref B) "__getattribute__" = some (some (.builtin "type.__getattribute__")))
  (xrB : PySem.W.readsIn K B (.type "type") = true)
  (xvB : PySem.W.findCls K (.ref B) (.type "type") "__init__" = some (.val (.builtin "ValueError.__init__")))
  (aC_InvalidMatrix : PySem.W.nsIn K mainGlobals "InvalidMatrix" = some (some (.ref C_InvalidMatrix)))
  (xL_InvalidMatrix : K.lookup C_InvalidMatrix = some (excClassObj nm_InvalidMatrix q_InvalidMatrix C_InvalidMatrix NN_InvalidMatrix bs_InvalidMatrix [.ref B, .type "ValueError", .type "Exception", .type "BaseException", .type "object"] true sn_InvalidMatrix sub_InvalidMatrix ab_InvalidMatrix col_InvalidMatrix dd_InvalidMatrix m0_InvalidMatrix m1_InvalidMatrix m2_InvalidMatrix m3_InvalidMatrix m5_InvalidMatrix "ValueError.__new__"))
  (sa_InvalidMatrix : PySem.W.findIn K (.ref C_InvalidMatrix) "__setattr__" = some (some (.builtin "object.__setattr__")))
  (ga_InvalidMatrix : PySem.W.findIn K (.ref C_InvalidMatrix) "__getattribute__" = some (some (.builtin "BaseException.__getattribute__")))
  (gg_InvalidMatrix : PySem.W.findIn K (.ref C_InvalidMatrix) "__getattr__" = some none)
  (nw_InvalidMatrix : PySem.W.findIn K (.ref C_InvalidMatrix) "what" = some none)
  (a1_InvalidMatrix : PySem.W.findIn K (.ref C_InvalidMatrix) "__init__" = some (some (.ref fI_InvalidMatrix)))
  (t1_InvalidMatrix : PySem.W.typeIn K (.ref fI_InvalidMatrix) = some (.type "function"))
  (l1_InvalidMatrix : K.lookup fI_InvalidMatrix = some ⟨oc_InvalidMatrix, od_InvalidMatrix, .func (PySem.W.fnOf "__init__" "InvalidMatrix.__init__" (defArgs s_init_InvalidMatrix) (defBody s_init_InvalidMatrix) (defScope s_init_InvalidMatrix) .none kV_InvalidMatrix dc_InvalidMatrix pm_InvalidMatrix an_InvalidMatrix cd_InvalidMatrix ct_InvalidMatrix), sl_InvalidMatrix⟩)
  (c1_InvalidMatrix : PySem.W.codeIn K cd_InvalidMatrix "InvalidMatrix.__init__" = true)
  (k1_InvalidMatrix : PySem.W.keepIn K (.ref fI_InvalidMatrix) = true)
  (kC_InvalidMatrix : PySem.W.keepIn K (.ref C_InvalidMatrix) = true)
  (eC_InvalidMatrix : PySem.W.subIn K (.ref C_InvalidMatrix) (.type "BaseException") = some true)
  (tC_InvalidMatrix : PySem.W.typeIn K (.ref C_InvalidMatrix) = some (.type "type"))
  (hC_InvalidMatrix : PySem.W.hasDictIn K C_InvalidMatrix = true)
  (iC_InvalidMatrix : PySem.W.isClsIn K C_InvalidMatrix = true)
  (sC_InvalidMatrix : PySem.W.subIn K (.ref C_InvalidMatrix) (.ref C_InvalidMatrix) = some true)
  (aC_TooMany : PySem.W.nsIn K mainGlobals "TooMany" = some (some (.ref C_TooMany)))
  (xL_TooMany : K.lookup C_TooMany = some (excClassObj nm_TooMany q_TooMany C_TooMany NN_TooMany bs_TooMany [.ref B, .type "ValueError", .type "Exception", .type "BaseException", .type "object"] true sn_TooMany sub_TooMany ab_TooMany col_TooMany dd_TooMany m0_TooMany m1_TooMany m2_TooMany m3_TooMany m5_TooMany "ValueError.__new__"))
  (sa_TooMany : PySem.W.findIn K (.ref C_TooMany) "__setattr__" = some (some (.builtin "object.__setattr__")))
  (ga_TooMany : PySem.W.findIn K (.ref C_TooMany) "__getattribute__" = some (some (.builtin "BaseException.__getattribute__")))
  (gg_TooMany : PySem.W.findIn K (.ref C_TooMany) "__getattr__" = some none)
  (nw_TooMany : PySem.W.findIn K (.ref C_TooMany) "what" = some none)
  (a1_TooMany : PySem.W.findIn K (.ref C_TooMany) "__init__" = some (some (.ref fI_TooMany)))
  (t1_TooMany : PySem.W.typeIn K (.ref fI_TooMany) = some (.type "function"))
  (l1_TooMany : K.lookup fI_TooMany = some ⟨oc_TooMany, od_TooMany, .func (PySem.W.fnOf "__init__" "TooMany.__init__" (defArgs s_init_TooMany) (defBody s_init_TooMany) (defScope s_init_TooMany) .none kV_TooMany dc_TooMany pm_TooMany an_TooMany cd_TooMany ct_TooMany), sl_TooMany⟩)
  (c1_TooMany : PySem.W.codeIn K cd_TooMany "TooMany.__init__" = true)
  (k1_TooMany : PySem.W.keepIn K (.ref fI_TooMany) = true)
  (kC_TooMany : PySem.W.keepIn K (.ref C_TooMany) = true)
  (eC_TooMany : PySem.W.subIn K (.ref C_TooMany) (.type "BaseException") = some true)
  (tC_TooMany : PySem.W.typeIn K (.ref C_TooMany) = some (.type "type"))
  (hC_TooMany : PySem.W.hasDictIn K C_TooMany = true)
  (iC_TooMany : PySem.W.isClsIn K C_TooMany = true)
  (sC_TooMany : PySem.W.subIn K (.ref C_TooMany) (.ref C_TooMany) = some true)
  (ha_InvalidMatrix : PySem.W.findIn K (.ref C_InvalidMatrix) "__class__" = some (some (.builtin "object.__class__")))
  (hm_InvalidMatrix : PySem.W.mroIn K C_InvalidMatrix (.type "object") = some true)
  (ha_TooMany : PySem.W.findIn K (.ref C_TooMany) "__class__" = some (some (.builtin "object.__class__")))
  (hm_TooMany : PySem.W.mroIn K C_TooMany (.type "object") = some true)
  (hn_cls : PySem.W.specialIn K (.builtin "object.__class__") "__get__" = some (some (.builtin "getset_descriptor.__get__")))
  (ht_cls : PySem.W.takesIn K (.builtin "object.__class__") = some true)
  (aC_InvalidVector : PySem.W.nsIn K mainGlobals "InvalidVector" = some (some (.ref C_InvalidVector)))
  (tC_InvalidVector : PySem.W.typeIn K (.ref C_InvalidVector) = some (.type "type"))
  (iC_InvalidVector : PySem.W.isClsIn K C_InvalidVector = true)
  (eC_PolyError : PySem.W.subIn K (.ref B) (.type "BaseException") = some true)
  (tC_PolyError : PySem.W.typeIn K (.ref B) = some (.type "type"))
  (iC_PolyError : PySem.W.isClsIn K B = true)
  (sb_InvalidMatrix_InvalidVector : PySem.W.subIn K (.ref C_InvalidMatrix) (.ref C_InvalidVector) = some false)
  (sb_InvalidMatrix_PolyError : PySem.W.subIn K (.ref C_InvalidMatrix) (.ref B) = some true)
  (sb_InvalidMatrix_TooMany : PySem.W.subIn K (.ref C_InvalidMatrix) (.ref C_TooMany) = some false)
  (sb_TooMany_InvalidMatrix : PySem.W.subIn K (.ref C_TooMany) (.ref C_InvalidMatrix) = some false)
  (sb_TooMany_InvalidVector : PySem.W.subIn K (.ref C_TooMany) (.ref C_InvalidVector) = some false)
  (sb_TooMany_PolyError : PySem.W.subIn K (.ref C_TooMany) (.ref B) = some true)
  (a_flaw_deck : PySem.W.nsIn K mainGlobals "_law_deck" = some (some (.ref f_flaw_deck)))
  (l_flaw_deck : K.lookup f_flaw_deck = some ⟨oc_flaw_deck, od_flaw_deck, .func (PySem.W.fnOf "_law_deck" "_law_deck" (defArgs s_law_deck) (defBody s_law_deck) (defScope s_law_deck) .none kV_flaw_deck dc_flaw_deck pm_flaw_deck an_flaw_deck cd_flaw_deck ct_flaw_deck), sl_flaw_deck⟩)
  (c_flaw_deck : PySem.W.codeIn K cd_flaw_deck "_law_deck" = true)
  (k_flaw_deck : PySem.W.keepIn K (.ref f_flaw_deck) = true)
  (a_flaw_is_parts : PySem.W.nsIn K mainGlobals "_law_is_parts" = some (some (.ref f_flaw_is_parts)))
  (l_flaw_is_parts : K.lookup f_flaw_is_parts = some ⟨oc_flaw_is_parts, od_flaw_is_parts, .func (PySem.W.fnOf "_law_is_parts" "_law_is_parts" (defArgs s_law_is_parts) (defBody s_law_is_parts) (defScope s_law_is_parts) .none kV_flaw_is_parts dc_flaw_is_parts pm_flaw_is_parts an_flaw_is_parts cd_flaw_is_parts ct_flaw_is_parts), sl_flaw_is_parts⟩)
  (c_flaw_is_parts : PySem.W.codeIn K cd_flaw_is_parts "_law_is_parts" = true)
  (k_flaw_is_parts : PySem.W.keepIn K (.ref f_flaw_is_parts) = true)
  (a_flaw_take : PySem.W.nsIn K mainGlobals "_law_take" = some (some (.ref f_flaw_take)))
  (l_flaw_take : K.lookup f_flaw_take = some ⟨oc_flaw_take, od_flaw_take, .func (PySem.W.fnOf "_law_take" "_law_take" (defArgs s_law_take) (defBody s_law_take) (defScope s_law_take) .none kV_flaw_take dc_flaw_take pm_flaw_take an_flaw_take cd_flaw_take ct_flaw_take), sl_flaw_take⟩)
  (c_flaw_take : PySem.W.codeIn K cd_flaw_take "_law_take" = true)
  (k_flaw_take : PySem.W.keepIn K (.ref f_flaw_take) = true)
  (a_flaw_order : PySem.W.nsIn K mainGlobals "_law_order" = some (some (.ref f_flaw_order)))
  (l_flaw_order : K.lookup f_flaw_order = some ⟨oc_flaw_order, od_flaw_order, .func (PySem.W.fnOf "_law_order" "_law_order" (defArgs s_law_order) (defBody s_law_order) (defScope s_law_order) .none kV_flaw_order dc_flaw_order pm_flaw_order an_flaw_order cd_flaw_order ct_flaw_order), sl_flaw_order⟩)
  (c_flaw_order : PySem.W.codeIn K cd_flaw_order "_law_order" = true)
  (k_flaw_order : PySem.W.keepIn K (.ref f_flaw_order) = true)
  (a_flaw_put : PySem.W.nsIn K mainGlobals "_law_put" = some (some (.ref f_flaw_put)))
  (l_flaw_put : K.lookup f_flaw_put = some ⟨oc_flaw_put, od_flaw_put, .func (PySem.W.fnOf "_law_put" "_law_put" (defArgs s_law_put) (defBody s_law_put) (defScope s_law_put) .none kV_flaw_put dc_flaw_put pm_flaw_put an_flaw_put cd_flaw_put ct_flaw_put), sl_flaw_put⟩)
  (c_flaw_put : PySem.W.codeIn K cd_flaw_put "_law_put" = true)
  (k_flaw_put : PySem.W.keepIn K (.ref f_flaw_put) = true)
  (a_flaw_made : PySem.W.nsIn K mainGlobals "_law_made" = some (some (.ref f_flaw_made)))
  (l_flaw_made : K.lookup f_flaw_made = some ⟨oc_flaw_made, od_flaw_made, .func (PySem.W.fnOf "_law_made" "_law_made" (defArgs s_law_made) (defBody s_law_made) (defScope s_law_made) .none kV_flaw_made dc_flaw_made pm_flaw_made an_flaw_made cd_flaw_made ct_flaw_made), sl_flaw_made⟩)
  (c_flaw_made : PySem.W.codeIn K cd_flaw_made "_law_made" = true)
  (k_flaw_made : PySem.W.keepIn K (.ref f_flaw_made) = true)
  (a_flaw_plain : PySem.W.nsIn K mainGlobals "_law_plain" = some (some (.ref f_flaw_plain)))
  (l_flaw_plain : K.lookup f_flaw_plain = some ⟨oc_flaw_plain, od_flaw_plain, .func (PySem.W.fnOf "_law_plain" "_law_plain" (defArgs s_law_plain) (defBody s_law_plain) (defScope s_law_plain) .none kV_flaw_plain dc_flaw_plain pm_flaw_plain an_flaw_plain cd_flaw_plain ct_flaw_plain), sl_flaw_plain⟩)
  (c_flaw_plain : PySem.W.codeIn K cd_flaw_plain "_law_plain" = true)
  (k_flaw_plain : PySem.W.keepIn K (.ref f_flaw_plain) = true)
  (a_fcheck_square : PySem.W.nsIn K mainGlobals "check_square" = some (some (.ref f_fcheck_square)))
  (l_fcheck_square : K.lookup f_fcheck_square = some ⟨oc_fcheck_square, od_fcheck_square, .func (PySem.W.fnOf "check_square" "check_square" (defArgs s_check_square) (defBody s_check_square) (defScope s_check_square) .none kV_fcheck_square dc_fcheck_square pm_fcheck_square an_fcheck_square cd_fcheck_square ct_fcheck_square), sl_fcheck_square⟩)
  (c_fcheck_square : PySem.W.codeIn K cd_fcheck_square "check_square" = true)
  (k_fcheck_square : PySem.W.keepIn K (.ref f_fcheck_square) = true)
  (a_fjudge_parts : PySem.W.nsIn K mainGlobals "judge_parts" = some (some (.ref f_fjudge_parts)))
  (l_fjudge_parts : K.lookup f_fjudge_parts = some ⟨oc_fjudge_parts, od_fjudge_parts, .func (PySem.W.fnOf "judge_parts" "judge_parts" (defArgs s_judge_parts) (defBody s_judge_parts) (defScope s_judge_parts) .none kV_fjudge_parts dc_fjudge_parts pm_fjudge_parts an_fjudge_parts cd_fjudge_parts ct_fjudge_parts), sl_fjudge_parts⟩)
  (c_fjudge_parts : PySem.W.codeIn K cd_fjudge_parts "judge_parts" = true)
  (k_fjudge_parts : PySem.W.keepIn K (.ref f_fjudge_parts) = true)
  (a_fleast_permutation : PySem.W.nsIn K mainGlobals "least_permutation" = some (some (.ref f_fleast_permutation)))
  (l_fleast_permutation : K.lookup f_fleast_permutation = some ⟨oc_fleast_permutation, od_fleast_permutation, .func (PySem.W.fnOf "least_permutation" "least_permutation" (defArgs s_least_permutation) (defBody s_least_permutation) (defScope s_least_permutation) .none kV_fleast_permutation dc_fleast_permutation pm_fleast_permutation an_fleast_permutation cd_fleast_permutation ct_fleast_permutation), sl_fleast_permutation⟩)
  (c_fleast_permutation : PySem.W.codeIn K cd_fleast_permutation "least_permutation" = true)
  (k_fleast_permutation : PySem.W.keepIn K (.ref f_fleast_permutation) = true)
  (a_fparts_of_square : PySem.W.nsIn K mainGlobals "parts_of_square" = some (some (.ref f_fparts_of_square)))
  (l_fparts_of_square : K.lookup f_fparts_of_square = some ⟨oc_fparts_of_square, od_fparts_of_square, .func (PySem.W.fnOf "parts_of_square" "parts_of_square" (defArgs s_parts_of_square) (defBody s_parts_of_square) (defScope s_parts_of_square) .none kV_fparts_of_square dc_fparts_of_square pm_fparts_of_square an_fparts_of_square cd_fparts_of_square ct_fparts_of_square), sl_fparts_of_square⟩)
  (c_fparts_of_square : PySem.W.codeIn K cd_fparts_of_square "parts_of_square" = true)
  (k_fparts_of_square : PySem.W.keepIn K (.ref f_fparts_of_square) = true)
  (a_flaw_why : PySem.W.nsIn K mainGlobals "_law_why" = some (some (.ref f_flaw_why)))
  (l_flaw_why : K.lookup f_flaw_why = some ⟨oc_flaw_why, od_flaw_why, .func (PySem.W.fnOf "_law_why" "_law_why" (defArgs s_law_why) (defBody s_law_why) (defScope s_law_why) .none kV_flaw_why dc_flaw_why pm_flaw_why an_flaw_why cd_flaw_why ct_flaw_why), sl_flaw_why⟩)
  (c_flaw_why : PySem.W.codeIn K cd_flaw_why "_law_why" = true)
  (k_flaw_why : PySem.W.keepIn K (.ref f_flaw_why) = true)
  (a_flaw : PySem.W.nsIn K mainGlobals "law" = some (some (.ref f_flaw)))
  (l_flaw : K.lookup f_flaw = some ⟨oc_flaw, od_flaw, .func (PySem.W.fnOf "law" "law" (defArgs s_law) (defBody s_law) (defScope s_law) .none kV_flaw dc_flaw pm_flaw an_flaw cd_flaw ct_flaw), sl_flaw⟩)
  (c_flaw : PySem.W.codeIn K cd_flaw "law" = true)
  (k_flaw : PySem.W.keepIn K (.ref f_flaw) = true)
  (a_flaw_spoil : PySem.W.nsIn K mainGlobals "_law_spoil" = some (some (.ref f_flaw_spoil)))
  (l_flaw_spoil : K.lookup f_flaw_spoil = some ⟨oc_flaw_spoil, od_flaw_spoil, .func (PySem.W.fnOf "_law_spoil" "_law_spoil" (defArgs s_law_spoil) (defBody s_law_spoil) (defScope s_law_spoil) .none kV_flaw_spoil dc_flaw_spoil pm_flaw_spoil an_flaw_spoil cd_flaw_spoil ct_flaw_spoil), sl_flaw_spoil⟩)
  (c_flaw_spoil : PySem.W.codeIn K cd_flaw_spoil "_law_spoil" = true)
  (k_flaw_spoil : PySem.W.keepIn K (.ref f_flaw_spoil) = true)
  (z_abs : PySem.W.nsIn K mainGlobals "abs" = some none)
  (z_any : PySem.W.nsIn K mainGlobals "any" = some none)
  (z_bool : PySem.W.nsIn K mainGlobals "bool" = some none)
  (z_enumerate : PySem.W.nsIn K mainGlobals "enumerate" = some none)
  (z_int : PySem.W.nsIn K mainGlobals "int" = some none)
  (z_isinstance : PySem.W.nsIn K mainGlobals "isinstance" = some none)
  (z_len : PySem.W.nsIn K mainGlobals "len" = some none)
  (z_list : PySem.W.nsIn K mainGlobals "list" = some none)
  (z_min : PySem.W.nsIn K mainGlobals "min" = some none)
  (z_range : PySem.W.nsIn K mainGlobals "range" = some none)
  (z_set : PySem.W.nsIn K mainGlobals "set" = some none)
  (z_sorted : PySem.W.nsIn K mainGlobals "sorted" = some none)
  (z_str : PySem.W.nsIn K mainGlobals "str" = some none)
  (z_sum : PySem.W.nsIn K mainGlobals "sum" = some none)
  (z_tuple : PySem.W.nsIn K mainGlobals "tuple" = some none) :
  ∃ fd : FuncData, (∀ (s : Shared) (v : Value), BindsTo s fd ⟨[v], []⟩ [("script", v)]) ∧ ∀ base : Heap, K.In base → base.Ns mainGlobals mg → FnOk l.prog w K mg base (L2.CX l.prog w) 9 fa fd ["script"] (spLaw K) := by
  have e := hfa.symm.trans (PySem.W.mg_of X G a_flaw)
  cases e
  have T : Txt K mg := ⟨PySem.W.mg_none_of X G z_abs, PySem.W.mg_none_of X G z_any, PySem.W.mg_none_of X G z_bool, PySem.W.mg_none_of X G z_enumerate, PySem.W.mg_none_of X G z_int, PySem.W.mg_none_of X G z_isinstance, PySem.W.mg_none_of X G z_len, PySem.W.mg_none_of X G z_list, PySem.W.mg_none_of X G z_min, PySem.W.mg_none_of X G z_range, PySem.W.mg_none_of X G z_set, PySem.W.mg_none_of X G z_sorted, PySem.W.mg_none_of X G z_str, PySem.W.mg_none_of X G z_sum, PySem.W.mg_none_of X G z_tuple⟩
  let ev : Ev := ⟨C_InvalidMatrix, C_TooMany, C_InvalidVector, B⟩
  have E_InvalidMatrix : ErrTxt K mg "InvalidMatrix" ev.cInvalidMatrix B fI_InvalidMatrix := ⟨⟨⟨nm_InvalidMatrix, q_InvalidMatrix, NN_InvalidMatrix, bs_InvalidMatrix, _, sn_InvalidMatrix, sub_InvalidMatrix, ab_InvalidMatrix, col_InvalidMatrix, dd_InvalidMatrix, m0_InvalidMatrix, m1_InvalidMatrix, m2_InvalidMatrix, m3_InvalidMatrix, m5_InvalidMatrix, xL_InvalidMatrix, by rfl⟩, sa_InvalidMatrix, eC_InvalidMatrix, tC_InvalidMatrix, kC_InvalidMatrix⟩, PySem.W.mg_of X G aC_InvalidMatrix, a1_InvalidMatrix, t1_InvalidMatrix, nw_InvalidMatrix, PySem.W.mg_of X G xB, xsB, xrB, xvB, ga_InvalidMatrix, gg_InvalidMatrix, hC_InvalidMatrix⟩
  have FI0_InvalidMatrix := fun_mk (st := s_init_InvalidMatrix) l1_InvalidMatrix c1_InvalidMatrix k1_InvalidMatrix
  have bI_InvalidMatrix := FI0_InvalidMatrix.binds (ps := nmSW) fun _ _ _ _ _ _ us hl => match us, hl with | [_, _], _ => rfl
  have te_InvalidMatrix : PySem.W.exmOne K (.ref ev.cInvalidMatrix) (.ref ev.cInvalidMatrix) = some true := exm_self eC_InvalidMatrix iC_InvalidMatrix tC_InvalidMatrix sC_InvalidMatrix
  have E_TooMany : ErrTxt K mg "TooMany" ev.cTooMany B fI_TooMany := ⟨⟨⟨nm_TooMany, q_TooMany, NN_TooMany, bs_TooMany, _, sn_TooMany, sub_TooMany, ab_TooMany, col_TooMany, dd_TooMany, m0_TooMany, m1_TooMany, m2_TooMany, m3_TooMany, m5_TooMany, xL_TooMany, by rfl⟩, sa_TooMany, eC_TooMany, tC_TooMany, kC_TooMany⟩, PySem.W.mg_of X G aC_TooMany, a1_TooMany, t1_TooMany, nw_TooMany, PySem.W.mg_of X G xB, xsB, xrB, xvB, ga_TooMany, gg_TooMany, hC_TooMany⟩
  have FI0_TooMany := fun_mk (st := s_init_TooMany) l1_TooMany c1_TooMany k1_TooMany
  have bI_TooMany := FI0_TooMany.binds (ps := nmSW) fun _ _ _ _ _ _ us hl => match us, hl with | [_, _], _ => rfl
  have te_TooMany : PySem.W.exmOne K (.ref ev.cTooMany) (.ref ev.cTooMany) = some true := exm_self eC_TooMany iC_TooMany tC_TooMany sC_TooMany
  have I_InvalidMatrix : IsaTxt K ev.cInvalidMatrix := ⟨ha_InvalidMatrix, hn_cls, ht_cls, hm_InvalidMatrix⟩
  have I_TooMany : IsaTxt K ev.cTooMany := ⟨ha_TooMany, hn_cls, ht_cls, hm_TooMany⟩
  have M_InvalidMatrix : mg "InvalidMatrix" = some (.ref ev.cInvalidMatrix) := PySem.W.mg_of X G aC_InvalidMatrix
  have M_InvalidVector : mg "InvalidVector" = some (.ref ev.cInvalidVector) := PySem.W.mg_of X G aC_InvalidVector
  have M_PolyError : mg "PolyError" = some (.ref ev.cPolyError) := PySem.W.mg_of X G xB
  have M_TooMany : mg "TooMany" = some (.ref ev.cTooMany) := PySem.W.mg_of X G aC_TooMany
  have te_InvalidMatrix_PolyError : PySem.W.exmOne K (.ref ev.cInvalidMatrix) (.ref ev.cPolyError) = some true := exm_of eC_PolyError iC_PolyError tC_PolyError sb_InvalidMatrix_PolyError
  have te_TooMany_PolyError : PySem.W.exmOne K (.ref ev.cTooMany) (.ref ev.cPolyError) = some true := exm_of eC_PolyError iC_PolyError tC_PolyError sb_TooMany_PolyError
  have ki_InvalidMatrix_InvalidMatrix : PySem.W.kitOne K (.ref ev.cInvalidMatrix) (.ref ev.cInvalidMatrix) = some true := kit_self
  have ki_InvalidMatrix_TooMany : PySem.W.kitOne K (.ref ev.cInvalidMatrix) (.ref ev.cTooMany) = some false := (kit_no sC_InvalidMatrix iC_TooMany tC_TooMany sb_InvalidMatrix_TooMany)
  have ki_TooMany_InvalidMatrix : PySem.W.kitOne K (.ref ev.cTooMany) (.ref ev.cInvalidMatrix) = some false := (kit_no sC_TooMany iC_InvalidMatrix tC_InvalidMatrix sb_TooMany_InvalidMatrix)
  have ki_TooMany_TooMany : PySem.W.kitOne K (.ref ev.cTooMany) (.ref ev.cTooMany) = some true := kit_self
  have kt_InvalidMatrix_InvalidVector_TooMany : PySem.W.kitAny K (.ref ev.cInvalidMatrix) [.ref ev.cInvalidVector, .ref ev.cTooMany] = some false := by
    have h1 : PySem.W.kitOne K (.ref ev.cInvalidMatrix) (.ref ev.cInvalidVector) = some false := (kit_no sC_InvalidMatrix iC_InvalidVector tC_InvalidVector sb_InvalidMatrix_InvalidVector)
    have h2 : PySem.W.kitOne K (.ref ev.cInvalidMatrix) (.ref ev.cTooMany) = some false := (kit_no sC_InvalidMatrix iC_TooMany tC_TooMany sb_InvalidMatrix_TooMany)
    simp [PySem.W.kitAny, h1, h2]
  have kt_TooMany_InvalidVector_TooMany : PySem.W.kitAny K (.ref ev.cTooMany) [.ref ev.cInvalidVector, .ref ev.cTooMany] = some true := by
    have h1 : PySem.W.kitOne K (.ref ev.cTooMany) (.ref ev.cInvalidVector) = some false := (kit_no sC_TooMany iC_InvalidVector tC_InvalidVector sb_TooMany_InvalidVector)
    have h2 : PySem.W.kitOne K (.ref ev.cTooMany) (.ref ev.cTooMany) = some true := kit_self
    simp [PySem.W.kitAny, h1, h2]
  have hne : ev.cInvalidMatrix ≠ ev.cTooMany := fun e => by
    have h1 : PySem.W.subIn K (.ref ev.cInvalidMatrix) (.ref ev.cInvalidMatrix) = some true := sC_InvalidMatrix
    have h2 : PySem.W.subIn K (.ref ev.cInvalidMatrix) (.ref ev.cTooMany) = some false := sb_InvalidMatrix_TooMany
    rw [← e, h1] at h2
    cases h2
  have F_law_deck := fun_mk (st := s_law_deck) l_flaw_deck c_flaw_deck k_flaw_deck
  have b_law_deck_ := F_law_deck.binds (ps := P_law_deck) fun _ _ _ _ _ _ us hl => match us, hl with | [_, _, _], _ => rfl
  have F_law_is_parts := fun_mk (st := s_law_is_parts) l_flaw_is_parts c_flaw_is_parts k_flaw_is_parts
  have b_law_is_parts_ := F_law_is_parts.binds (ps := P_law_is_parts) fun _ _ _ _ _ _ us hl => match us, hl with | [_, _], _ => rfl
  have F_law_take := fun_mk (st := s_law_take) l_flaw_take c_flaw_take k_flaw_take
  have b_law_take_ := F_law_take.binds (ps := P_law_take) fun _ _ _ _ _ _ us hl => match us, hl with | [_, _], _ => rfl
  have F_law_order := fun_mk (st := s_law_order) l_flaw_order c_flaw_order k_flaw_order
  have b_law_order_ := F_law_order.binds (ps := P_law_order) fun _ _ _ _ _ _ us hl => match us, hl with | [_, _], _ => rfl
  have F_law_put := fun_mk (st := s_law_put) l_flaw_put c_flaw_put k_flaw_put
  have b_law_put_ := F_law_put.binds (ps := P_law_put) fun _ _ _ _ _ _ us hl => match us, hl with | [_, _, _], _ => rfl
  have F_law_made := fun_mk (st := s_law_made) l_flaw_made c_flaw_made k_flaw_made
  have b_law_made_ := F_law_made.binds (ps := P_law_made) fun _ _ _ _ _ _ us hl => match us, hl with | [_, _], _ => rfl
  have F_law_plain := fun_mk (st := s_law_plain) l_flaw_plain c_flaw_plain k_flaw_plain
  have b_law_plain_ := F_law_plain.binds (ps := P_law_plain) fun _ _ _ _ _ _ us hl => match us, hl with | [_], _ => rfl
  have F_check_square := fun_mk (st := s_check_square) l_fcheck_square c_fcheck_square k_fcheck_square
  have b_check_square_ := F_check_square.binds (ps := P_check_square) fun _ _ _ _ _ _ us hl => match us, hl with | [_], _ => rfl
  have F_judge_parts := fun_mk (st := s_judge_parts) l_fjudge_parts c_fjudge_parts k_fjudge_parts
  have b_judge_parts_ := F_judge_parts.binds (ps := P_judge_parts) fun _ _ _ _ _ _ us hl => match us, hl with | [_, _], _ => rfl
  have F_least_permutation := fun_mk (st := s_least_permutation) l_fleast_permutation c_fleast_permutation k_fleast_permutation
  have b_least_permutation_ := F_least_permutation.binds (ps := P_least_permutation) fun _ _ _ _ _ _ us hl => match us, hl with | [_], _ => rfl
  have F_parts_of_square := fun_mk (st := s_parts_of_square) l_fparts_of_square c_fparts_of_square k_fparts_of_square
  have b_parts_of_square_ := F_parts_of_square.binds (ps := P_parts_of_square) fun _ _ _ _ _ _ us hl => match us, hl with | [_], _ => rfl
  have F_law_why := fun_mk (st := s_law_why) l_flaw_why c_flaw_why k_flaw_why
  have b_law_why_ := F_law_why.binds (ps := P_law_why) fun _ _ _ _ _ _ us hl => match us, hl with | [_, _, _], _ => rfl
  have F_law := fun_mk (st := s_law) l_flaw c_flaw k_flaw
  have b_law_ := F_law.binds (ps := P_law) fun _ _ _ _ _ _ us hl => match us, hl with | [_], _ => rfl
  have F_law_spoil := fun_mk (st := s_law_spoil) l_flaw_spoil c_flaw_spoil k_flaw_spoil
  have b_law_spoil_ := F_law_spoil.binds (ps := P_law_spoil) fun _ _ _ _ _ _ us hl => match us, hl with | [_], _ => rfl
  refine ⟨PySem.W.fnOf "law" "law" (defArgs s_law) (defBody s_law) (defScope s_law) .none kV_flaw dc_flaw pm_flaw an_flaw cd_flaw ct_flaw, fun s v => .of_eq rfl, fun base _ _ => ?_⟩
  have FI_InvalidMatrix : FnOk l.prog w K mg base (L2.CX l.prog w) 1 fI_InvalidMatrix _ nmSW (spInit ev.cInvalidMatrix) := init_ok FI0_InvalidMatrix E_InvalidMatrix ⟨rfl, rfl, rfl, by decide +kernel, rfl, by decide +kernel, by decide +kernel⟩ (by decide) rfl rfl rfl rfl (fun _ _ _ _ _ _ => rfl) (fun _ _ _ _ _ _ => ⟨_, rfl⟩)
  have FI_TooMany : FnOk l.prog w K mg base (L2.CX l.prog w) 1 fI_TooMany _ nmSW (spInit ev.cTooMany) := init_ok FI0_TooMany E_TooMany ⟨rfl, rfl, rfl, by decide +kernel, rfl, by decide +kernel, by decide +kernel⟩ (by decide) rfl rfl rfl rfl (fun _ _ _ _ _ _ => rfl) (fun _ _ _ _ _ _ => ⟨_, rfl⟩)
  have CS : CalS l.prog w K mg base 6 := ⟨⟨_, _, P_law_spoil, ok_law_spoil T.z_isinstance T.z_list T.z_tuple F_law_spoil (PySem.W.mg_of X G a_flaw_spoil) b_law_spoil_ 6, PySem.W.mg_of X G a_flaw_spoil, F_law_spoil.kp, b_law_spoil_⟩⟩
  have C_law_deck : Cal l.prog w K mg base 2 "_law_deck" 3 (f_law_deck K ev) := cal_fn F_law_deck (PySem.W.mg_of X G a_flaw_deck) b_law_deck_ sc_law_deck rfl rfl (by decide) (fun cdv A outer s H E hr => b_law_deck T  cdv A outer s H E hr)
  have C_law_is_parts : Cal l.prog w K mg base 2 "_law_is_parts" 2 (f_law_is_parts K ev) := cal_fn F_law_is_parts (PySem.W.mg_of X G a_flaw_is_parts) b_law_is_parts_ sc_law_is_parts rfl rfl (by decide) (fun cdv A outer s H E hr => b_law_is_parts T  cdv A outer s H E hr)
  have C_law_take : Cal l.prog w K mg base 2 "_law_take" 2 (f_law_take K ev) := cal_fn F_law_take (PySem.W.mg_of X G a_flaw_take) b_law_take_ sc_law_take rfl rfl (by decide) (fun cdv A outer s H E hr => b_law_take T  cdv A outer s H E hr)
  have C_law_order : Cal l.prog w K mg base 4 "_law_order" 2 (f_law_order K ev) := cal_fn F_law_order (PySem.W.mg_of X G a_flaw_order) b_law_order_ sc_law_order rfl rfl (by decide) (fun cdv A outer s H E hr => b_law_order T C_law_take cdv A outer s H E hr)
  have C_law_put : Cal l.prog w K mg base 2 "_law_put" 3 (f_law_put K ev) := cal_fn F_law_put (PySem.W.mg_of X G a_flaw_put) b_law_put_ sc_law_put rfl rfl (by decide) (fun cdv A outer s H E hr => b_law_put T  cdv A outer s H E hr)
  have C_law_made : Cal l.prog w K mg base 6 "_law_made" 2 (f_law_made K ev) := cal_fn F_law_made (PySem.W.mg_of X G a_flaw_made) b_law_made_ sc_law_made rfl rfl (by decide) (fun cdv A outer s H E hr => b_law_made T C_law_order C_law_put C_law_take cdv A outer s H E hr)
  have C0_law_plain : ∀ j, Cal l.prog w K mg base (j + 0) "_law_plain" 1 (f_law_plain K ev j) := fun j => by
    induction j with
    | zero => exact (cal_zero rfl (PySem.W.mg_of X G a_flaw_plain) F_law_plain.kp b_law_plain_)
    | succ j C_law_plain => exact cal_fn F_law_plain (PySem.W.mg_of X G a_flaw_plain) b_law_plain_ sc_law_plain rfl rfl (by decide) (fun cdv A outer s H E hr => b_law_plain T C_law_plain cdv A outer s H E hr)
  have C_law_plain := C0_law_plain 6
  have C_check_square : Cal l.prog w K mg base 3 "check_square" 1 (f_check_square K ev) := cal_fn F_check_square (PySem.W.mg_of X G a_fcheck_square) b_check_square_ sc_check_square rfl rfl (by decide) (fun cdv A outer s H E hr => b_check_square T  E_InvalidMatrix FI_InvalidMatrix bI_InvalidMatrix cdv A outer s H E hr)
  have C_judge_parts : Cal l.prog w K mg base 5 "judge_parts" 2 (f_judge_parts K ev) := cal_fn F_judge_parts (PySem.W.mg_of X G a_fjudge_parts) b_judge_parts_ sc_judge_parts rfl rfl (by decide) (fun cdv A outer s H E hr => b_judge_parts T C_check_square cdv A outer s H E hr)
  have C_least_permutation : Cal l.prog w K mg base 2 "least_permutation" 1 (f_least_permutation K ev) := cal_fn F_least_permutation (PySem.W.mg_of X G a_fleast_permutation) b_least_permutation_ sc_least_permutation rfl rfl (by decide) (fun cdv A outer s H E hr => b_least_permutation T  cdv A outer s H E hr)
  have C_parts_of_square : Cal l.prog w K mg base 5 "parts_of_square" 1 (f_parts_of_square K ev) := cal_fn F_parts_of_square (PySem.W.mg_of X G a_fparts_of_square) b_parts_of_square_ sc_parts_of_square rfl rfl (by decide) (fun cdv A outer s H E hr => b_parts_of_square T C_check_square C_least_permutation E_TooMany FI_TooMany bI_TooMany cdv A outer s H E hr)
  have C_law_why : Cal l.prog w K mg base 7 "_law_why" 3 (f_law_why K ev) := cal_fn F_law_why (PySem.W.mg_of X G a_flaw_why) b_law_why_ sc_law_why rfl rfl (by decide) (fun cdv A outer s H E hr => b_law_why T C_judge_parts C_parts_of_square E_InvalidMatrix FI_InvalidMatrix bI_InvalidMatrix E_TooMany FI_TooMany bI_TooMany I_InvalidMatrix I_TooMany M_InvalidMatrix M_InvalidVector M_PolyError M_TooMany ki_InvalidMatrix_InvalidMatrix ki_InvalidMatrix_TooMany ki_TooMany_InvalidMatrix ki_TooMany_TooMany kt_InvalidMatrix_InvalidVector_TooMany kt_TooMany_InvalidVector_TooMany te_InvalidMatrix_PolyError te_TooMany_PolyError cdv A outer s H E hr)
  exact law_ok F_law sc_law (by decide) (fun cdv A outer s H E hr => b_law T C_law_deck C_law_is_parts C_law_made C_law_order C_law_plain C_law_take C_law_why C_judge_parts C_parts_of_square CS cdv A outer s H E hr) fun a ns hl => law_true K ev hne a ns hl
theorem walk {l : PySem.W.OpenLaw} {q : Program} {loose : List Str} {XP : (Str → Option Value) → Heap → Prop} {YP : World → Heap → Prop} {d : DefRec} {K : Params → PySem.W.Frag} (hn : l.most = some 63) (hdf : d.params.defaults = [])
    (hY : ∀ (w : World) (h : Heap), YP w h → (K w.params).In h)
    (F : ∀ (w : World) (mg : Str → Option Value) (fa : Addr) (h : Heap), (K w.params).In h → h.Ns mainGlobals mg → mg d.name = some (.ref fa) →
      ∃ fd : FuncData, (∀ (s : Shared) (u : Value), BindsTo s fd ⟨[u], []⟩ [("script", u)]) ∧ ∀ base : Heap, (K w.params).In base → base.Ns mainGlobals mg → FnOk l.prog w (K w.params) mg base (L2.CX l.prog w) 9 fa fd ["script"] (spLaw (K w.params))) :
    PySem.W.WalkO q loose XP YP l.row.toRowW d [] (fun f vs => PySem.call f vs) :=
  L2.walk_of (n := 63) (k := 9) (x := "script") (CX := fun w => L2.CX l.prog w) (sp := fun w => spLaw (K w.params)) hn (by decide) hdf ⟨rfl, by decide, by decide⟩ hY F (fun _ H a ns hl hO hS => ⟨a, ns, rfl, hl, hO, hS, fun _ => rfl⟩) fun _ _ _ _ _ z => by
    obtain ⟨_, _, _, _, _, _, _, _, _, _, _, _, z⟩ := z
    exact z
end VL
open PySem PySem.W PyProof.Rows in
set_option maxRecDepth 100000 in
set_option maxHeartbeats 0 in
theorem PySem.Challenge.cw_polywork_k52_whole_parts_of_squares_holds : PySem.Challenge.rw_polywork_k52_whole_parts_of_squares.Holds := by
  w_on; o_law; k_head; (case hw => w_witness2)
  k_fill
  refine VL.walk (l := PySem.Challenge.rw_polywork_k52_whole_parts_of_squares) rfl rfl (fun w h Y => PySem.W.kIn_of Y) ?F
  case F =>
    intro w mg fa h KX G hmg
    refine' VL.all_mk KX G hmg ?xB ?xsB ?xrB ?xvB ?aC_InvalidMatrix ?xL_InvalidMatrix ?sa_InvalidMatrix ?ga_InvalidMatrix ?gg_InvalidMatrix ?nw_InvalidMatrix ?a1_InvalidMatrix ?t1_InvalidMatrix ?l1_InvalidMatrix ?c1_InvalidMatrix ?k1_InvalidMatrix ?kC_InvalidMatrix ?eC_InvalidMatrix ?tC_InvalidMatrix ?hC_InvalidMatrix ?iC_InvalidMatrix ?sC_InvalidMatrix ?aC_TooMany ?xL_TooMany ?sa_TooMany ?ga_TooMany ?gg_TooMany ?nw_TooMany ?a1_TooMany ?t1_TooMany ?l1_TooMany ?c1_TooMany ?k1_TooMany ?kC_TooMany ?eC_TooMany ?tC_TooMany ?hC_TooMany ?iC_TooMany ?sC_TooMany ?ha_InvalidMatrix ?hm_InvalidMatrix ?ha_TooMany ?hm_TooMany ?hn_cls ?ht_cls ?aC_InvalidVector ?tC_InvalidVector ?iC_InvalidVector ?eC_PolyError ?tC_PolyError ?iC_PolyError ?sb_InvalidMatrix_InvalidVector ?sb_InvalidMatrix_PolyError ?sb_InvalidMatrix_TooMany ?sb_TooMany_InvalidMatrix ?sb_TooMany_InvalidVector ?sb_TooMany_PolyError ?a_flaw_deck ?l_flaw_deck ?c_flaw_deck ?k_flaw_deck ?a_flaw_is_parts ?l_flaw_is_parts ?c_flaw_is_parts ?k_flaw_is_parts ?a_flaw_take ?l_flaw_take ?c_flaw_take ?k_flaw_take ?a_flaw_order ?l_flaw_order ?c_flaw_order ?k_flaw_order ?a_flaw_put ?l_flaw_put ?c_flaw_put ?k_flaw_put ?a_flaw_made ?l_flaw_made ?c_flaw_made ?k_flaw_made ?a_flaw_plain ?l_flaw_plain ?c_flaw_plain ?k_flaw_plain ?a_fcheck_square ?l_fcheck_square ?c_fcheck_square ?k_fcheck_square ?a_fjudge_parts ?l_fjudge_parts ?c_fjudge_parts ?k_fjudge_parts ?a_fleast_permutation ?l_fleast_permutation ?c_fleast_permutation ?k_fleast_permutation ?a_fparts_of_square ?l_fparts_of_square ?c_fparts_of_square ?k_fparts_of_square ?a_flaw_why ?l_flaw_why ?c_flaw_why ?k_flaw_why ?a_flaw ?l_flaw ?c_flaw ?k_flaw ?a_flaw_spoil ?l_flaw_spoil ?c_flaw_spoil ?k_flaw_spoil ?z_abs ?z_any ?z_bool ?z_enumerate ?z_int ?z_isinstance ?z_len ?z_list ?z_min ?z_range ?z_set ?z_sorted ?z_str ?z_sum ?z_tuple
    (case xB => k_is)
    (case xsB => k_is)
    (case xrB => k_is)
    (case xvB => k_is)
    (case aC_InvalidMatrix => k_is)
    (case xL_InvalidMatrix => k_is)
    (case sa_InvalidMatrix => k_is)
    (case ga_InvalidMatrix => k_is)
    (case gg_InvalidMatrix => k_is)
    (case nw_InvalidMatrix => k_is)
    (case a1_InvalidMatrix => k_is)
    (case t1_InvalidMatrix => k_is)
    (case l1_InvalidMatrix => k_is)
    (case c1_InvalidMatrix => k_is)
    (case k1_InvalidMatrix => k_is)
    (case kC_InvalidMatrix => k_is)
    (case eC_InvalidMatrix => k_is)
    (case tC_InvalidMatrix => k_is)
    (case hC_InvalidMatrix => k_is)
    (case iC_InvalidMatrix => k_is)
    (case sC_InvalidMatrix => first | rfl | k_is)
    (case aC_TooMany => k_is)
    (case xL_TooMany => k_is)
    (case sa_TooMany => k_is)
    (case ga_TooMany => k_is)
    (case gg_TooMany => k_is)
    (case nw_TooMany => k_is)
    (case a1_TooMany => k_is)
    (case t1_TooMany => k_is)
    (case l1_TooMany => k_is)
    (case c1_TooMany => k_is)
    (case k1_TooMany => k_is)
    (case kC_TooMany => k_is)
    (case eC_TooMany => k_is)
    (case tC_TooMany => k_is)
    (case hC_TooMany => k_is)
    (case iC_TooMany => k_is)
    (case sC_TooMany => first | rfl | k_is)
    (case ha_InvalidMatrix => k_is)
    (case hm_InvalidMatrix => k_is)
    (case ha_TooMany => k_is)
    (case hm_TooMany => k_is)
    (case hn_cls => k_is)
    (case ht_cls => k_is)
    (case aC_InvalidVector => k_is)
    (case tC_InvalidVector => k_is)
    (case iC_InvalidVector => k_is)
    (case eC_PolyError => k_is)
    (case tC_PolyError => k_is)
    (case iC_PolyError => k_is)
    (case sb_InvalidMatrix_InvalidVector => first | rfl | k_is)
    (case sb_InvalidMatrix_PolyError => first | rfl | k_is)
    (case sb_InvalidMatrix_TooMany => first | rfl | k_is)
    (case sb_TooMany_InvalidMatrix => first | rfl | k_is)
    (case sb_TooMany_InvalidVector => first | rfl | k_is)
    (case sb_TooMany_PolyError => first | rfl | k_is)
    (case a_flaw_deck => k_is)
    (case l_flaw_deck => k_is)
    (case c_flaw_deck => k_is)
    (case k_flaw_deck => k_is)
    (case a_flaw_is_parts => k_is)
    (case l_flaw_is_parts => k_is)
    (case c_flaw_is_parts => k_is)
    (case k_flaw_is_parts => k_is)
    (case a_flaw_take => k_is)
    (case l_flaw_take => k_is)
    (case c_flaw_take => k_is)
    (case k_flaw_take => k_is)
    (case a_flaw_order => k_is)
    (case l_flaw_order => k_is)
    (case c_flaw_order => k_is)
    (case k_flaw_order => k_is)
    (case a_flaw_put => k_is)
    (case l_flaw_put => k_is)
    (case c_flaw_put => k_is)
    (case k_flaw_put => k_is)
    (case a_flaw_made => k_is)
    (case l_flaw_made => k_is)
    (case c_flaw_made => k_is)
    (case k_flaw_made => k_is)
    (case a_flaw_plain => k_is)
    (case l_flaw_plain => k_is)
    (case c_flaw_plain => k_is)
    (case k_flaw_plain => k_is)
    (case a_fcheck_square => k_is)
    (case l_fcheck_square => k_is)
    (case c_fcheck_square => k_is)
    (case k_fcheck_square => k_is)
    (case a_fjudge_parts => k_is)
    (case l_fjudge_parts => k_is)
    (case c_fjudge_parts => k_is)
    (case k_fjudge_parts => k_is)
    (case a_fleast_permutation => k_is)
    (case l_fleast_permutation => k_is)
    (case c_fleast_permutation => k_is)
    (case k_fleast_permutation => k_is)
    (case a_fparts_of_square => k_is)
    (case l_fparts_of_square => k_is)
    (case c_fparts_of_square => k_is)
    (case k_fparts_of_square => k_is)
    (case a_flaw_why => k_is)
    (case l_flaw_why => k_is)
    (case c_flaw_why => k_is)
    (case k_flaw_why => k_is)
    (case a_flaw => k_is)
    (case l_flaw => k_is)
    (case c_flaw => k_is)
    (case k_flaw => k_is)
    (case a_flaw_spoil => k_is)
    (case l_flaw_spoil => k_is)
    (case c_flaw_spoil => k_is)
    (case k_flaw_spoil => k_is)
    (case z_abs => k_is)
    (case z_any => k_is)
    (case z_bool => k_is)
    (case z_enumerate => k_is)
    (case z_int => k_is)
    (case z_isinstance => k_is)
    (case z_len => k_is)
    (case z_list => k_is)
    (case z_min => k_is)
    (case z_range => k_is)
    (case z_set => k_is)
    (case z_sorted => k_is)
    (case z_str => k_is)
    (case z_sum => k_is)
    (case z_tuple => k_is)
    all_goals exact none
#print axioms PySem.Challenge.cw_polywork_k52_whole_parts_of_squares_holds

