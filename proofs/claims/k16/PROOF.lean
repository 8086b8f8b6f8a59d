import PyProof.Rows.All
import HandS.ForMost
import HandS.ForExc
import KE.DataEq
import KE.DataAny
import KE.DataMinMax
import KE.DataIsa
import KE.SortData
import HandS.Gcd
import HandS.TupAny
import HandS.TupMul
import HandS.Conv
import HandS.TupSets
import HandS.IsInst
import HandS.Dict
import HandS.WordsDict
import HandS.ExcInit
import HandS.Zip
import PySem.Challenge.RW_polywork_k16_shellings_judged
set_option Elab.async false
set_option linter.all false
set_option autoImplicit false
set_option maxRecDepth 100000
namespace VL
open PySem PySem.Spec L2
open PyProof.Rows hiding St

/-! ## data -/
inductive D where
  | non | bl (b : Bool) | int (i : Int) | str (x : Str) | ty (n : String)
  | lst (xs : List D) | tup (xs : List D)
  | dK (ks : List Key) (xs : List D) | dT (ks : List (List Key)) (xs : List D)
  | obj (c : Addr) (ns : List Str) (xs : List D)
  | exc (a dd : Addr) (n : Str) (x : D)
  | kl (K : PySem.W.Frag) (a : Addr) (ns : List Int)
  deriving Inhabited

structure Cell where
  pin : Bool
  val : Option (Nat × D)
  deriving Inhabited
abbrev Sl := List Cell
abbrev Fps := Nat → List Addr

/-- a value in flight: borrowed?, depth owned, data -/
structure Vl where
  b : Bool
  k : Nat
  d : D
abbrev Vl.fzn (d : D) : Vl := ⟨false, 0, d⟩

inductive R (α : Type) where
  | stuck
  | ok (a : α) (s : Sl)
  | err (c : Addr) (w : Option (Str × D)) (s : Sl)
@[reducible] def R.bind {α β : Type} (r : R α) (f : α → Sl → R β) : R β := match r with
  | .stuck => .stuck
  | .ok a s => f a s
  | .err c w s => .err c w s
def R.wp {α : Type} (r : R α) (ok : α → Sl → Prop) (er : Addr → Option (Str × D) → Sl → Prop) : Prop := match r with
  | .stuck => False
  | .ok a s => ok a s
  | .err c w s => er c w s
theorem R.wp_bind {α β : Type} {r : R α} {f : α → Sl → R β} {ok : β → Sl → Prop} {er : Addr → Option (Str × D) → Sl → Prop} (h : (r.bind f).wp ok er) :
    r.wp (fun a s => (f a s).wp ok er) er := by
  cases r <;> exact h
theorem R.wp_mono {α : Type} {r : R α} {ok ok' : α → Sl → Prop} {er er' : Addr → Option (Str × D) → Sl → Prop} (h : r.wp ok er)
    (h1 : ∀ a s, ok a s → ok' a s) (h2 : ∀ c w s, er c w s → er' c w s) : r.wp ok' er' := by
  cases r with
  | stuck => exact h
  | ok a s => exact h1 a s h
  | err c w s => exact h2 c w s h

/-! ## heaps -/
def Inc (G G' : Hp) : Prop := ∀ a o, G a = some o → G' a = some o
theorem Inc.refl (G : Hp) : Inc G G := fun _ _ h => h
theorem Inc.trans {A B C : Hp} (x : Inc A B) (y : Inc B C) : Inc A C := fun a o h => y a o (x a o h)
/-- what is read stays readable -/
structure Le (G G' : Hp) : Prop where
  rd : ∀ a u, Rd G a u → Rd G' a u
  ins : ∀ a c dx fs, G a = some (.ins c dx fs) → G' a = some (.ins c dx fs)
  lst : ∀ a vs, G a = some (.lst vs) → G' a = some (.lst vs)
  tup : ∀ a vs, G a = some (.tup vs) → G' a = some (.tup vs)
  xd : ∀ a fs, G a = some (.xd fs) → G' a = some (.xd fs)
theorem Inc.le {G G' : Hp} (h : Inc G G') : Le G G' := ⟨fun a u r => r.elim (fun e => .inl (h _ _ e)) fun ⟨o, e⟩ => .inr ⟨o, h _ _ e⟩, fun a c dx fs e => h _ _ e, fun a vs e => h _ _ e, fun a vs e => h _ _ e, fun a fs e => h _ _ e⟩
theorem Le.refl (G : Hp) : Le G G := (Inc.refl G).le

mutual
/-- frozen data: it stands in the frozen part of the heap -/
def Fz (G : Hp) : D → V → Prop
  | .non, v => v = .non
  | .bl b, v => v = .bl b
  | .int i, v => v = .int i
  | .str x, v => v = .str x
  | .ty n, v => v = .ty n
  | .lst ds, v => ∃ a vs, v = .ref a ∧ G a = some (.lst vs) ∧ FzL G ds vs
  | .tup ds, v => ∃ a vs, v = .ref a ∧ G a = some (.tup vs) ∧ FzL G ds vs
  | .dK ks ds, v => ∃ a vs, v = .ref a ∧ Rd G a (.dK (ks.zip vs)) ∧ ks.length = ds.length ∧ FzL G ds vs
  | .dT ks ds, v => ∃ a vs, v = .ref a ∧ Rd G a (.dT (ks.zip vs)) ∧ ks.length = ds.length ∧ FzL G ds vs
  | .obj c ns ds, v => ∃ a dx vs, v = .ref a ∧ G a = some (.ins c dx (ns.zip vs)) ∧ ns.length = ds.length ∧ FzL G ds vs
  | .exc a dd n x, v => v = .ref a ∧ ∃ fs u, G dd = some (.xd fs) ∧ fs.lookup n = some u ∧ Fz G x u
  | .kl K a ns, v => v = .ref a ∧ SqL K G a (ns.map V.int)
def FzL (G : Hp) : List D → List V → Prop
  | [], vs => vs = []
  | d :: ds, vs => ∃ v r, vs = v :: r ∧ Fz G d v ∧ FzL G ds r
end
mutual
theorem Fz.le {G G' : Hp} (m : Le G G') : ∀ (d : D) (v : V), Fz G d v → Fz G' d v
  | .non, v, h => by simpa [Fz] using h
  | .bl b, v, h => by simpa [Fz] using h
  | .int i, v, h => by simpa [Fz] using h
  | .str x, v, h => by simpa [Fz] using h
  | .ty n, v, h => by simpa [Fz] using h
  | .lst ds, v, h => by
    simp only [Fz] at h ⊢
    obtain ⟨a, vs, e, r, q⟩ := h
    exact ⟨a, vs, e, m.lst _ _ r, FzL.le m ds vs q⟩
  | .tup ds, v, h => by
    simp only [Fz] at h ⊢
    obtain ⟨a, vs, e, r, q⟩ := h
    exact ⟨a, vs, e, m.tup _ _ r, FzL.le m ds vs q⟩
  | .dK ks ds, v, h => by
    simp only [Fz] at h ⊢
    obtain ⟨a, vs, e, r, l, q⟩ := h
    exact ⟨a, vs, e, m.rd _ _ r, l, FzL.le m ds vs q⟩
  | .dT ks ds, v, h => by
    simp only [Fz] at h ⊢
    obtain ⟨a, vs, e, r, l, q⟩ := h
    exact ⟨a, vs, e, m.rd _ _ r, l, FzL.le m ds vs q⟩
  | .obj c ns ds, v, h => by
    simp only [Fz] at h ⊢
    obtain ⟨a, dx, vs, e, r, l, q⟩ := h
    exact ⟨a, dx, vs, e, m.ins _ _ _ _ r, l, FzL.le m ds vs q⟩
  | .exc a dd n x, v, h => by
    simp only [Fz] at h ⊢
    obtain ⟨e, fs, u, r, l, q⟩ := h
    exact ⟨e, fs, u, m.xd _ _ r, l, Fz.le m x u q⟩
  | .kl K a ns, v, h => by
    simp only [Fz] at h ⊢
    exact ⟨h.1, h.2.imp (m.rd _ _) id⟩
theorem FzL.le {G G' : Hp} (m : Le G G') : ∀ (ds : List D) (vs : List V), FzL G ds vs → FzL G' ds vs
  | [], vs, h => by simpa [FzL] using h
  | d :: ds, vs, h => by
    simp only [FzL] at h ⊢
    obtain ⟨v, r, e, h1, h2⟩ := h
    exact ⟨v, r, e, Fz.le m d v h1, FzL.le m ds r h2⟩
end
theorem Fz.inc {G G' : Hp} (m : Inc G G') {d : D} {v : V} (h : Fz G d v) : Fz G' d v := Fz.le m.le d v h
theorem FzL.inc {G G' : Hp} (m : Inc G G') {ds : List D} {vs : List V} (h : FzL G ds vs) : FzL G' ds vs := FzL.le m.le ds vs h
theorem FzL.length {G : Hp} : ∀ {ds : List D} {vs : List V}, FzL G ds vs → vs.length = ds.length
  | [], vs, h => by simp only [FzL] at h; subst h; rfl
  | d :: ds, vs, h => by
    simp only [FzL] at h
    obtain ⟨v, r, rfl, _, h2⟩ := h
    simp [FzL.length h2]
theorem FzL.get {G : Hp} : ∀ {ds : List D} {vs : List V} {i : Nat} {d : D}, FzL G ds vs → ds[i]? = some d → ∃ v, vs[i]? = some v ∧ Fz G d v
  | [], vs, i, d, h, e => by simp at e
  | d0 :: ds, vs, 0, d, h, e => by
    simp only [FzL] at h
    obtain ⟨v, r, rfl, h1, _⟩ := h
    simp at e; subst e
    exact ⟨v, rfl, h1⟩
  | d0 :: ds, vs, i + 1, d, h, e => by
    simp only [FzL] at h
    obtain ⟨v, r, rfl, _, h2⟩ := h
    obtain ⟨u, e1, e2⟩ := FzL.get (i := i) h2 (by simpa using e)
    exact ⟨u, by simpa using e1, e2⟩
theorem FzL.get' {G : Hp} {ds : List D} {vs : List V} {i : Nat} {v : V} (h : FzL G ds vs) (e : vs[i]? = some v) : ∃ d, ds[i]? = some d ∧ Fz G d v := by
  have hl := h.length
  have hi : i < ds.length := by rw [← hl]; exact (List.getElem?_eq_some_iff.mp e).1
  obtain ⟨u, e1, e2⟩ := h.get (i := i) (d := ds[i]) (by simp [hi])
  rw [e] at e1; cases e1
  exact ⟨_, by simp [hi], e2⟩
theorem FzL.append {G : Hp} : ∀ {ds es : List D} {vs us : List V}, FzL G ds vs → FzL G es us → FzL G (ds ++ es) (vs ++ us)
  | [], es, vs, us, h, k => by simp only [FzL] at h; subst h; simpa using k
  | d :: ds, es, vs, us, h, k => by
    simp only [FzL] at h
    obtain ⟨v, r, rfl, h1, h2⟩ := h
    simp only [List.cons_append, FzL]
    exact ⟨v, _, rfl, h1, FzL.append h2 k⟩
theorem FzL.cons {G : Hp} {d : D} {v : V} {ds : List D} {vs : List V} (h : Fz G d v) (k : FzL G ds vs) : FzL G (d :: ds) (v :: vs) := by
  simp only [FzL]; exact ⟨v, vs, rfl, h, k⟩
theorem FzL.nil {G : Hp} : FzL G [] [] := by simp [FzL]
theorem FzL.of {G : Hp} : ∀ {ds : List D} {vs : List V}, ds.length = vs.length → (∀ (i : Nat) (d : D) (v : V), ds[i]? = some d → vs[i]? = some v → Fz G d v) → FzL G ds vs
  | [], [], _, _ => .nil
  | d :: ds, v :: vs, hl, h => .cons (h 0 d v rfl rfl) (FzL.of (by simpa using hl) fun i d' v' e1 e2 => h (i + 1) d' v' (by simpa using e1) (by simpa using e2))

/-! ## owned data -/
def OwL (P : D → V → List Addr → Prop) : List D → List V → List Addr → Prop
  | [], vs, fp => vs = [] ∧ fp = []
  | d :: ds, vs, fp => ∃ v r f g, vs = v :: r ∧ fp = f ++ g ∧ P d v f ∧ OwL P ds r g
def Ow (G H : Hp) : Nat → D → V → List Addr → Prop
  | 0, d, v, fp => Fz G d v ∧ fp = []
  | k + 1, .lst ds, v, fp => ∃ a vs f, v = .ref a ∧ H a = some (.lst vs) ∧ fp = a :: f ∧ OwL (Ow G H k) ds vs f
  | k + 1, .dK ks ds, v, fp => ∃ a vs f, v = .ref a ∧ H a = some (.dK (ks.zip vs)) ∧ ks.length = ds.length ∧ fp = a :: f ∧ OwL (Ow G H k) ds vs f
  | k + 1, .dT ks ds, v, fp => ∃ a vs f, v = .ref a ∧ H a = some (.dT (ks.zip vs)) ∧ ks.length = ds.length ∧ fp = a :: f ∧ OwL (Ow G H k) ds vs f
  | k + 1, .obj c ns ds, v, fp => ∃ a dx vs f, v = .ref a ∧ H a = some (.ins c dx (ns.zip vs)) ∧ ns.length = ds.length ∧ fp = a :: f ∧ OwL (Ow G H k) ds vs f
  | _ + 1, d, v, fp => Fz G d v ∧ fp = []
theorem OwL.length {P : D → V → List Addr → Prop} : ∀ {ds : List D} {vs : List V} {fp : List Addr}, OwL P ds vs fp → vs.length = ds.length
  | [], vs, fp, h => by obtain ⟨rfl, _⟩ := h; rfl
  | d :: ds, vs, fp, h => by
    obtain ⟨v, r, f, g, rfl, _, _, h2⟩ := h
    simp [OwL.length h2]
theorem OwL.mono {P P' : D → V → List Addr → Prop} : ∀ {ds : List D} {vs : List V} {fp : List Addr}, OwL P ds vs fp → (∀ d v f, (∀ a ∈ f, a ∈ fp) → P d v f → P' d v f) → OwL P' ds vs fp
  | [], vs, fp, h, _ => h
  | d :: ds, vs, fp, h, m => by
    obtain ⟨v, r, f, g, rfl, rfl, h1, h2⟩ := h
    exact ⟨v, r, f, g, rfl, rfl, m d v f (fun a ha => List.mem_append_left _ ha) h1, OwL.mono h2 fun d v f hf => m d v f fun a ha => List.mem_append_right _ (hf a ha)⟩
/-- the owned thing stays where its places stay -/
theorem Ow.keep {G G' H H' : Hp} (m : Inc G G') : ∀ {k : Nat} {d : D} {v : V} {fp : List Addr}, Ow G H k d v fp → (∀ a ∈ fp, ∀ o, H a = some o → H' a = some o) → Ow G' H' k d v fp
  | 0, d, v, fp, h, _ => ⟨h.1.inc m, h.2⟩
  | k + 1, .lst ds, v, fp, h, q => by
    obtain ⟨a, vs, f, e, r, rfl, z⟩ := h
    exact ⟨a, vs, f, e, q a (by simp) _ r, rfl, z.mono fun d v g hg y => Ow.keep m y fun b hb => q b (List.mem_cons_of_mem _ (hg b hb))⟩
  | k + 1, .dK ks ds, v, fp, h, q => by
    obtain ⟨a, vs, f, e, r, l, rfl, z⟩ := h
    exact ⟨a, vs, f, e, q a (by simp) _ r, l, rfl, z.mono fun d v g hg y => Ow.keep m y fun b hb => q b (List.mem_cons_of_mem _ (hg b hb))⟩
  | k + 1, .dT ks ds, v, fp, h, q => by
    obtain ⟨a, vs, f, e, r, l, rfl, z⟩ := h
    exact ⟨a, vs, f, e, q a (by simp) _ r, l, rfl, z.mono fun d v g hg y => Ow.keep m y fun b hb => q b (List.mem_cons_of_mem _ (hg b hb))⟩
  | k + 1, .obj c ns ds, v, fp, h, q => by
    obtain ⟨a, dx, vs, f, e, r, l, rfl, z⟩ := h
    exact ⟨a, dx, vs, f, e, q a (by simp) _ r, l, rfl, z.mono fun d v g hg y => Ow.keep m y fun b hb => q b (List.mem_cons_of_mem _ (hg b hb))⟩
  | k + 1, .non, v, fp, h, _ => ⟨h.1.inc m, h.2⟩
  | k + 1, .bl b, v, fp, h, _ => ⟨h.1.inc m, h.2⟩
  | k + 1, .int b, v, fp, h, _ => ⟨h.1.inc m, h.2⟩
  | k + 1, .str b, v, fp, h, _ => ⟨h.1.inc m, h.2⟩
  | k + 1, .ty b, v, fp, h, _ => ⟨h.1.inc m, h.2⟩
  | k + 1, .tup b, v, fp, h, _ => ⟨h.1.inc m, h.2⟩
  | k + 1, .exc _ _ _ _, v, fp, h, _ => ⟨h.1.inc m, h.2⟩
  | k + 1, .kl _ _ _, v, fp, h, _ => ⟨h.1.inc m, h.2⟩
theorem OwL.dom {P : D → V → List Addr → Prop} {C : Addr → Prop} : ∀ {ds : List D} {vs : List V} {fp : List Addr}, OwL P ds vs fp → (∀ d v f, P d v f → ∀ a ∈ f, C a) → ∀ a ∈ fp, C a
  | [], vs, fp, h, _ => by obtain ⟨_, rfl⟩ := h; intro a ha; simp at ha
  | d :: ds, vs, fp, h, m => by
    obtain ⟨v, r, f, g, rfl, rfl, h1, h2⟩ := h
    intro a ha
    rcases List.mem_append.mp ha with ha | ha
    · exact m d v f h1 a ha
    · exact OwL.dom h2 m a ha
theorem Ow.dom {G H : Hp} : ∀ {k : Nat} {d : D} {v : V} {fp : List Addr}, Ow G H k d v fp → ∀ a ∈ fp, ∃ o, H a = some o
  | 0, d, v, fp, h => by obtain ⟨_, rfl⟩ := h; intro a ha; simp at ha
  | k + 1, .lst ds, v, fp, h => by
    obtain ⟨a, vs, f, e, r, rfl, z⟩ := h
    intro b hb
    rcases List.mem_cons.mp hb with rfl | hb
    · exact ⟨_, r⟩
    · exact z.dom (C := fun a => ∃ o, H a = some o) (fun d v f h => Ow.dom h) b hb
  | k + 1, .dK ks ds, v, fp, h => by
    obtain ⟨a, vs, f, e, r, _, rfl, z⟩ := h
    intro b hb
    rcases List.mem_cons.mp hb with rfl | hb
    · exact ⟨_, r⟩
    · exact z.dom (C := fun a => ∃ o, H a = some o) (fun d v f h => Ow.dom h) b hb
  | k + 1, .dT ks ds, v, fp, h => by
    obtain ⟨a, vs, f, e, r, _, rfl, z⟩ := h
    intro b hb
    rcases List.mem_cons.mp hb with rfl | hb
    · exact ⟨_, r⟩
    · exact z.dom (C := fun a => ∃ o, H a = some o) (fun d v f h => Ow.dom h) b hb
  | k + 1, .obj c ns ds, v, fp, h => by
    obtain ⟨a, dx, vs, f, e, r, _, rfl, z⟩ := h
    intro b hb
    rcases List.mem_cons.mp hb with rfl | hb
    · exact ⟨_, r⟩
    · exact z.dom (C := fun a => ∃ o, H a = some o) (fun d v f h => Ow.dom h) b hb
  | k + 1, .non, v, fp, h => by obtain ⟨_, rfl⟩ := h; intro a ha; simp at ha
  | k + 1, .bl b, v, fp, h => by obtain ⟨_, rfl⟩ := h; intro a ha; simp at ha
  | k + 1, .int b, v, fp, h => by obtain ⟨_, rfl⟩ := h; intro a ha; simp at ha
  | k + 1, .str b, v, fp, h => by obtain ⟨_, rfl⟩ := h; intro a ha; simp at ha
  | k + 1, .ty b, v, fp, h => by obtain ⟨_, rfl⟩ := h; intro a ha; simp at ha
  | k + 1, .tup b, v, fp, h => by obtain ⟨_, rfl⟩ := h; intro a ha; simp at ha
  | k + 1, .exc _ _ _ _, v, fp, h => by obtain ⟨_, rfl⟩ := h; intro a ha; simp at ha
  | k + 1, .kl _ _ _, v, fp, h => by obtain ⟨_, rfl⟩ := h; intro a ha; simp at ha
theorem OwL.fz {P : D → V → List Addr → Prop} {G : Hp} : ∀ {ds : List D} {vs : List V} {fp : List Addr}, OwL P ds vs fp → (∀ d v f, (∀ a ∈ f, a ∈ fp) → P d v f → Fz G d v) → FzL G ds vs
  | [], vs, fp, h, _ => by obtain ⟨rfl, _⟩ := h; exact .nil
  | d :: ds, vs, fp, h, m => by
    obtain ⟨v, r, f, g, rfl, rfl, h1, h2⟩ := h
    exact .cons (m d v f (fun a ha => List.mem_append_left _ ha) h1) (OwL.fz h2 fun d v f hf => m d v f fun a ha => List.mem_append_right _ (hf a ha))
/-- freezing -/
theorem Ow.fz {G G' H : Hp} (m : Inc G G') : ∀ {k : Nat} {d : D} {v : V} {fp : List Addr}, Ow G H k d v fp → (∀ a ∈ fp, ∀ o, H a = some o → G' a = some o) → Fz G' d v
  | 0, d, v, fp, h, _ => h.1.inc m
  | k + 1, .lst ds, v, fp, h, q => by
    obtain ⟨a, vs, f, e, r, rfl, z⟩ := h
    simp only [Fz]
    exact ⟨a, vs, e, q a (by simp) _ r, z.fz fun d v g hg y => Ow.fz m y fun b hb => q b (List.mem_cons_of_mem _ (hg b hb))⟩
  | k + 1, .dK ks ds, v, fp, h, q => by
    obtain ⟨a, vs, f, e, r, l, rfl, z⟩ := h
    simp only [Fz]
    exact ⟨a, vs, e, .inl (q a (by simp) _ r), l, z.fz fun d v g hg y => Ow.fz m y fun b hb => q b (List.mem_cons_of_mem _ (hg b hb))⟩
  | k + 1, .dT ks ds, v, fp, h, q => by
    obtain ⟨a, vs, f, e, r, l, rfl, z⟩ := h
    simp only [Fz]
    exact ⟨a, vs, e, .inl (q a (by simp) _ r), l, z.fz fun d v g hg y => Ow.fz m y fun b hb => q b (List.mem_cons_of_mem _ (hg b hb))⟩
  | k + 1, .obj c ns ds, v, fp, h, q => by
    obtain ⟨a, dx, vs, f, e, r, l, rfl, z⟩ := h
    simp only [Fz]
    exact ⟨a, dx, vs, e, q a (by simp) _ r, l, z.fz fun d v g hg y => Ow.fz m y fun b hb => q b (List.mem_cons_of_mem _ (hg b hb))⟩
  | k + 1, .non, v, fp, h, _ => h.1.inc m
  | k + 1, .bl b, v, fp, h, _ => h.1.inc m
  | k + 1, .int b, v, fp, h, _ => h.1.inc m
  | k + 1, .str b, v, fp, h, _ => h.1.inc m
  | k + 1, .ty b, v, fp, h, _ => h.1.inc m
  | k + 1, .tup b, v, fp, h, _ => h.1.inc m
  | k + 1, .exc _ _ _ _, v, fp, h, _ => h.1.inc m
  | k + 1, .kl _ _ _, v, fp, h, _ => h.1.inc m

/-! ## the state -/
structure SR (σ0 : St) (G H : Hp) (σ : St) (S : Sl) (F : Fps) : Prop where
  len : σ.length = S.length
  row : ∀ (i : Nat) (c : Cell), S[i]? = some c → (c.pin = true → σ[i]? = σ0[i]?) ∧ (∀ k d, c.val = some (k, d) → ∃ v, σ[i]? = some (some v) ∧ Ow G H k d v (F i)) ∧ (c.val = none → F i = [])
  out : ∀ i, S.length ≤ i → F i = []
  nd : ∀ i, (F i).Nodup
  dj : ∀ i j a, a ∈ F i → a ∈ F j → i = j
  fs : ∀ i a, a ∈ F i → G a = none
  inc : Inc G H
  tp : ∀ a us, H a = some (.tup us) → G a = some (.tup us)
structure Gr (p : Bool) (G H : Hp) (F : Fps) (S : Sl) (G' H' : Hp) (F' : Fps) (S' : Sl) : Prop where
  up : Inc G G'
  new : ∀ a, G' a ≠ none → G a ≠ none ∨ (∃ i, a ∈ F i) ∨ H a = none
  fr : ∀ a o, H a = some o → (∀ i, a ∉ F i) → H' a = some o
  src : ∀ i a, a ∈ F' i → (∃ j, a ∈ F j) ∨ H a = none
  pure : p = true → S' = S ∧ F' = F ∧ Inc H H' ∧ ∀ a, G' a ≠ none → G a ≠ none ∨ H a = none
structure VP (H : Hp) (F : Fps) (G' H' : Hp) (F' : Fps) (x : Vl) (v : V) (fp : List Addr) : Prop where
  ow : Ow G' H' x.k x.d v fp
  nd : x.b = false → fp.Nodup
  src : x.b = false → ∀ a ∈ fp, (∃ j, a ∈ F j) ∨ H a = none
  dj : x.b = false → ∀ i, ∀ a ∈ fp, a ∉ F' i
  ns : x.b = false → ∀ a ∈ fp, G' a = none
section
variable {σ0 σ : St} {G H G1 H1 G2 H2 : Hp} {F F1 F2 : Fps} {S S1 S2 : Sl} {p q : Bool}
theorem SR.dom (r : SR σ0 G H σ S F) {i : Nat} {a : Addr} (h : a ∈ F i) : ∃ o, H a = some o := by
  by_cases hi : i < S.length
  · obtain ⟨_, h2, h3⟩ := r.row i S[i] (by simp [hi])
    cases e : S[i].val with
    | none => rw [h3 e] at h; simp at h
    | some kd =>
      obtain ⟨k, d⟩ := kd
      obtain ⟨v, _, z⟩ := h2 k d e
      exact z.dom a h
  · rw [r.out i (by omega)] at h; simp at h
theorem SR.gNone (r : SR σ0 G H σ S F) {a : Addr} (h : H a = none) : G a = none := by
  cases e : G a with
  | none => rfl
  | some o => rw [r.inc a o e] at h; cases h
theorem Gr.refl (r : SR σ0 G H σ S F) : Gr p G H F S G H F S :=
  ⟨Inc.refl _, fun a h => .inl h, fun _ _ h _ => h, fun i a h => .inl ⟨i, h⟩, fun _ => ⟨rfl, rfl, Inc.refl _, fun a h => .inl h⟩⟩
theorem Gr.back (a : Gr p G H F S G1 H1 F1 S1) {x : Addr} (h : (∃ j, x ∈ F1 j) ∨ H1 x = none) : (∃ j, x ∈ F j) ∨ H x = none := by
  rcases h with ⟨j, h⟩ | h
  · exact a.src j x h
  · by_cases hx : ∃ j, x ∈ F j
    · exact .inl hx
    · cases e : H x with
      | none => exact .inr rfl
      | some o =>
        have := a.fr x o e fun i hi => hx ⟨i, hi⟩
        rw [this] at h; cases h
theorem Gr.trans (a : Gr p G H F S G1 H1 F1 S1) (b : Gr q G1 H1 F1 S1 G2 H2 F2 S2) : Gr (p && q) G H F S G2 H2 F2 S2 where
  up := a.up.trans b.up
  new := fun x h => by
    rcases b.new x h with h | h
    · exact a.new x h
    · exact .inr (a.back h)
  fr := fun x o h hf => b.fr x o (a.fr x o h hf) fun i hi => by
    rcases a.src i x hi with ⟨j, hj⟩ | hn
    · exact hf j hj
    · rw [h] at hn; cases hn
  src := fun i x h => a.back (b.src i x h)
  pure := fun h => by
    obtain ⟨hp, hq⟩ := Bool.and_eq_true_iff.mp h
    obtain ⟨a1, a2, a3, a4⟩ := a.pure hp
    obtain ⟨b1, b2, b3, b4⟩ := b.pure hq
    refine ⟨b1.trans a1, b2.trans a2, a3.trans b3, fun x hx => ?_⟩
    rcases b4 x hx with h | h
    · exact a4 x h
    · right
      cases e : H x with
      | none => rfl
      | some o => rw [a3 x o e] at h; cases h
theorem Gr.weak (a : Gr p G H F S G1 H1 F1 S1) (h : q = true → p = true) : Gr q G H F S G1 H1 F1 S1 := ⟨a.up, a.new, a.fr, a.src, fun z => a.pure (h z)⟩
theorem Gr.off (a : Gr p G H F S G1 H1 F1 S1) : Gr false G H F S G1 H1 F1 S1 := a.weak fun h => nomatch h
/-- what stands outside is not touched -/
theorem Gr.keepG (a : Gr p G H F S G1 H1 F1 S1) {x : Addr} {o : HO} (h : H x = some o) (hf : ∀ i, x ∉ F i) (hg : G x = none) : G1 x = none := by
  cases e : G1 x with
  | none => rfl
  | some u =>
    rcases a.new x (by rw [e]; intro z; cases z) with z | ⟨i, z⟩ | z
    · exact absurd hg z
    · exact absurd z (hf i)
    · rw [h] at z; cases z
theorem VP.carry {x : Vl} {v : V} {fp : List Addr} (z : VP H F G1 H1 F1 x v fp) (a : Gr p G1 H1 F1 S1 G2 H2 F2 S2) (h : x.b = false ∨ p = true) : VP H F G2 H2 F2 x v fp := by
  have agree : ∀ a ∈ fp, ∀ o, H1 a = some o → H2 a = some o := fun b hb o ho => by
    rcases h with h | h
    · exact a.fr b o ho fun i => z.dj h i b hb
    · exact (a.pure h).2.2.1 b o ho
  refine ⟨z.ow.keep a.up agree, z.nd, z.src, fun hb i b hbf hi => ?_, fun hb b hbf => ?_⟩
  · obtain ⟨o, ho⟩ := z.ow.dom b hbf
    rcases a.src i b hi with ⟨j, hj⟩ | hn
    · exact z.dj hb j b hbf hj
    · rw [ho] at hn; cases hn
  · obtain ⟨o, ho⟩ := z.ow.dom b hbf
    exact a.keepG ho (fun i => z.dj hb i b hbf) (z.ns hb b hbf)
/-- seen from an earlier point -/
theorem VP.from {x : Vl} {v : V} {fp : List Addr} (a : Gr p G H F S G1 H1 F1 S1) (z : VP H1 F1 G2 H2 F2 x v fp) : VP H F G2 H2 F2 x v fp :=
  ⟨z.ow, z.nd, fun hb b h => a.back (z.src hb b h), z.dj, z.ns⟩
/-- an earlier value and a later one are apart -/
theorem VP.apart {x y : Vl} {v u : V} {fp fq : List Addr} {G3 H3 : Hp} {F3 : Fps} (z : VP H F G1 H1 F1 x v fp) (w : VP H1 F1 G2 H2 F2 y u fq) (hx : x.b = false) (hy : y.b = false) : ∀ a ∈ fp, a ∉ fq := fun a ha hq => by
  obtain ⟨o, ho⟩ := z.ow.dom a ha
  rcases w.src hy a hq with ⟨j, hj⟩ | hn
  · exact z.dj hx j a ha hj
  · rw [ho] at hn; cases hn
theorem VP.fzn {d : D} {v : V} (h : Fz G1 d v) : VP H F G1 H1 F1 (.fzn d) v [] := ⟨⟨h, rfl⟩, fun _ => .nil, fun _ a h => by simp at h, fun _ _ a h => by simp at h, fun _ a h => by simp at h⟩
theorem VP.isFz {d : D} {v : V} {fp : List Addr} (z : VP H F G1 H1 F1 (.fzn d) v fp) : Fz G1 d v := z.ow.1
open Classical in
/-- a part of the heap is frozen -/
noncomputable def frzd (G H : Hp) (fp : List Addr) : Hp := fun a => if a ∈ fp then H a else G a
theorem frzd_inc {fp : List Addr} (h : ∀ a ∈ fp, G a = none) : Inc G (frzd G H fp) := fun a o e => by
  unfold frzd
  by_cases ha : a ∈ fp
  · rw [h a ha] at e; cases e
  · rw [if_neg ha]; exact e
theorem frzd_at {fp : List Addr} {a : Addr} (h : a ∈ fp) : frzd G H fp a = H a := if_pos h
theorem frzd_ne {fp : List Addr} {a : Addr} (h : a ∉ fp) : frzd G H fp a = G a := if_neg h
theorem frzd_tup {fp : List Addr} (h : ∀ a us, H a = some (.tup us) → G a = some (.tup us)) : ∀ a us, H a = some (.tup us) → frzd G H fp a = some (.tup us) := fun b us e => by
  by_cases hf : b ∈ fp
  · rw [frzd_at hf]; exact e
  · rw [frzd_ne hf]; exact h b us e
/-- the state where a value in flight has been frozen -/
theorem VP.freeze {x : Vl} {v : V} {fp : List Addr} (r : SR σ0 G1 H1 σ S1 F1) (a : Gr p G H F S G1 H1 F1 S1) (z : VP H F G1 H1 F1 x v fp) (hb : x.b = false) :
    ∃ G2, SR σ0 G2 H1 σ S1 F1 ∧ Gr p G H F S G2 H1 F1 S1 ∧ Fz G2 x.d v := by
  have hi : Inc G1 (frzd G1 H1 fp) := frzd_inc (z.ns hb)
  refine ⟨frzd G1 H1 fp, ⟨r.len, fun i c hc => ?_, r.out, r.nd, r.dj, fun i b hib => ?_, fun b o e => ?_, frzd_tup r.tp⟩, ⟨a.up.trans hi, fun b hb' => ?_, a.fr, a.src, fun hp => ?_⟩, z.ow.fz hi fun b hb' o ho => by rw [frzd_at hb']; exact ho⟩
  · obtain ⟨h1, h2, h3⟩ := r.row i c hc
    refine ⟨h1, fun k d e => ?_, h3⟩
    obtain ⟨u, e1, e2⟩ := h2 k d e
    exact ⟨u, e1, e2.keep hi fun _ _ _ h => h⟩
  · rw [frzd_ne fun hf => z.dj hb i b hf hib]
    exact r.fs i b hib
  · by_cases hf : b ∈ fp
    · rw [frzd_at hf] at e; exact e
    · rw [frzd_ne hf] at e; exact r.inc b o e
  · by_cases hf : b ∈ fp
    · exact .inr (z.src hb b hf)
    · rw [frzd_ne hf] at hb'; exact a.new b hb'
  · obtain ⟨p1, p2, p3, p4⟩ := a.pure hp
    refine ⟨p1, p2, p3, fun b hb' => ?_⟩
    by_cases hf : b ∈ fp
    · rcases z.src hb b hf with ⟨j, hj⟩ | hn
      · exact absurd (p2 ▸ hj : b ∈ F1 j) (z.dj hb j b hf)
      · exact .inr hn
    · rw [frzd_ne hf] at hb'; exact p4 b hb'
end
end VL

set_option Elab.async false
set_option linter.all false
set_option autoImplicit false
set_option maxRecDepth 100000
namespace VL
open PySem PySem.Spec L2
open PyProof.Rows hiding St

/-! ## judgements -/
/-- what an error carries -/
def ER (G H : Hp) (w : Option (Str × D)) (dd : Option Addr) : Prop := match w with
  | none => True
  | some (n, d) => ∃ a fs v, dd = some a ∧ G a = some (.xd fs) ∧ fs.lookup n = some v ∧ Fz G d v
section
variable (p : Bool) (σ0 σ : St) (G H : Hp) (S : Sl) (F : Fps)
def OkV (Q : VK) (x : Vl) (S' : Sl) : Prop := ∀ v fp G' H' F', SR σ0 G' H' σ S' F' → Gr p G H F S G' H' F' S' → VP H F G' H' F' x v fp → Q v H'
def OkD (Q : VK) (d : D) (S' : Sl) : Prop := ∀ v G' H' F', SR σ0 G' H' σ S' F' → Gr p G H F S G' H' F' S' → Fz G' d v → Q v H'
def OkB (Q : Bool → Hp → Prop) (b : Bool) (S' : Sl) : Prop := ∀ G' H' F', SR σ0 G' H' σ S' F' → Gr p G H F S G' H' F' S' → Q b H'
def OkA (Q : List V → Hp → Prop) (ds : List D) (S' : Sl) : Prop := ∀ vs G' H' F', SR σ0 G' H' σ S' F' → Gr p G H F S G' H' F' S' → FzL G' ds vs → Q vs H'
def OkE (W : WX) (c : Addr) (w : Option (Str × D)) (S' : Sl) : Prop := ∀ dd G' H' F', SR σ0 G' H' σ S' F' → Gr false G H F S G' H' F' S' → ER G' H' w dd → W (.ref c) dd σ H'
end
section
variable (p : Bool) (X : Cx) (W : WX)
def VE (e : Expr) (g : Sl → R Vl) : Prop := ∃ t, PE X e t ∧ ∀ σ0 σ G H S F Q, SR σ0 G H σ S F → (g S).wp (OkV p σ0 σ G H S F Q) (OkE σ0 σ G H S F W) → t σ H Q
def VD (e : Expr) (g : Sl → R D) : Prop := ∃ t, PE X e t ∧ ∀ σ0 σ G H S F Q, SR σ0 G H σ S F → (g S).wp (OkD p σ0 σ G H S F Q) (OkE σ0 σ G H S F W) → t σ H Q
def VT (e : Expr) (g : Sl → R Bool) : Prop := ∃ t, PT X e t ∧ ∀ σ0 σ G H S F Q, SR σ0 G H σ S F → (g S).wp (OkB p σ0 σ G H S F Q) (OkE σ0 σ G H S F W) → t σ H Q
def VA (es : List Expr) (g : Sl → R (List D)) : Prop := ∃ t, PA X es t ∧ ∀ σ0 σ G H S F Q, SR σ0 G H σ S F → (g S).wp (OkA p σ0 σ G H S F Q) (OkE σ0 σ G H S F W) → t σ H Q
end

section
variable {X : Cx} {W : WX} {p q : Bool} {e ea eb : Expr}
variable {σ0 σ : St} {G H G1 H1 G2 H2 : Hp} {F F1 F2 : Fps} {S S1 S2 : Sl}
/-- errors seen from an earlier point -/
theorem OkE.from (a : Gr p G H F S G1 H1 F1 S1) {c : Addr} {w : Option (Str × D)} {S' : Sl} (h : OkE σ0 σ G H S F W c w S') : OkE σ0 σ G1 H1 S1 F1 W c w S' :=
  fun dd G' H' F' r g er => h dd G' H' F' r (a.off.trans g) er
def gD (g : Sl → R Vl) : Sl → R D := fun S => (g S).bind fun x S' => if x.b then .stuck else .ok x.d S'
def gV (g : Sl → R D) : Sl → R Vl := fun S => (g S).bind fun d S' => .ok (.fzn d) S'
theorem VE.d {g : Sl → R Vl} (h : VE p X W e g) : VD p X W e (gD g) := by
  obtain ⟨t, h1, h2⟩ := h
  refine ⟨t, h1, fun σ0 σ G H S F Q r hw => h2 σ0 σ G H S F Q r (R.wp_mono (R.wp_bind hw) (fun x S' hx v fp G' H' F' r' g' z => ?_) fun c w S' h => h)⟩
  cases hb : x.b with
  | true => rw [hb] at hx; exact hx.elim
  | false =>
    rw [hb] at hx
    obtain ⟨G2, r2, g2, z2⟩ := z.freeze r' g' hb
    exact hx v G2 H' F' r2 g2 z2
theorem VD.v {g : Sl → R D} (h : VD p X W e g) : VE p X W e (gV g) := by
  obtain ⟨t, h1, h2⟩ := h
  exact ⟨t, h1, fun σ0 σ G H S F Q r hw => h2 σ0 σ G H S F Q r (R.wp_mono (R.wp_bind hw) (fun d S' hx v G' H' F' r' g' z => hx v [] G' H' F' r' g' (.fzn z)) fun c w S' h => h)⟩
theorem VE.weak {g : Sl → R Vl} (h : VE p X W e g) (hq : q = true → p = true) : VE q X W e g := by
  obtain ⟨t, h1, h2⟩ := h
  exact ⟨t, h1, fun σ0 σ G H S F Q r hw => h2 σ0 σ G H S F Q r (R.wp_mono hw (fun x S' hx v fp G' H' F' r' g' z => hx v fp G' H' F' r' (g'.weak hq) z) fun c w S' h => h)⟩
theorem VD.weak {g : Sl → R D} (h : VD p X W e g) (hq : q = true → p = true) : VD q X W e g := by
  obtain ⟨t, h1, h2⟩ := h
  exact ⟨t, h1, fun σ0 σ G H S F Q r hw => h2 σ0 σ G H S F Q r (R.wp_mono hw (fun x S' hx v G' H' F' r' g' z => hx v G' H' F' r' (g'.weak hq) z) fun c w S' h => h)⟩
/-- the semantics may be exchanged -/
theorem VD.cong {g g' : Sl → R D} (h : VD p X W e g) (hg : ∀ S, g' S = g S) : VD p X W e g' := by
  have : g' = g := funext hg
  rw [this]; exact h

/-! ### in a row -/
theorem VD.then {g : Sl → R D} {t : TE} {β : Type} {f : D → Sl → R β} {ok : β → Sl → Prop} {Q : VK} (h2 : ∀ σ0 σ G H S F Q, SR σ0 G H σ S F → (g S).wp (OkD p σ0 σ G H S F Q) (OkE σ0 σ G H S F W) → t σ H Q)
    (r : SR σ0 G H σ S F) (hw : ((g S).bind f).wp ok (OkE σ0 σ G H S F W))
    (k : ∀ d S' v G' H' F', SR σ0 G' H' σ S' F' → Gr p G H F S G' H' F' S' → Fz G' d v → (f d S').wp ok (OkE σ0 σ G' H' S' F' W) → Q v H') : t σ H Q :=
  h2 σ0 σ G H S F Q r (R.wp_mono (R.wp_bind hw) (fun d S' hx v G' H' F' r' g' z => k d S' v G' H' F' r' g' z (R.wp_mono hx (fun _ _ h => h) fun c w S' h => h.from g')) fun c w S' h => h)
theorem VE.then {g : Sl → R Vl} {t : TE} {β : Type} {f : Vl → Sl → R β} {ok : β → Sl → Prop} {Q : VK} (h2 : ∀ σ0 σ G H S F Q, SR σ0 G H σ S F → (g S).wp (OkV p σ0 σ G H S F Q) (OkE σ0 σ G H S F W) → t σ H Q)
    (r : SR σ0 G H σ S F) (hw : ((g S).bind f).wp ok (OkE σ0 σ G H S F W))
    (k : ∀ x S' v fp G' H' F', SR σ0 G' H' σ S' F' → Gr p G H F S G' H' F' S' → VP H F G' H' F' x v fp → (f x S').wp ok (OkE σ0 σ G' H' S' F' W) → Q v H') : t σ H Q :=
  h2 σ0 σ G H S F Q r (R.wp_mono (R.wp_bind hw) (fun d S' hx v fp G' H' F' r' g' z => k d S' v fp G' H' F' r' g' z (R.wp_mono hx (fun _ _ h => h) fun c w S' h => h.from g')) fun c w S' h => h)
theorem VA.then {g : Sl → R (List D)} {t : TA} {β : Type} {f : List D → Sl → R β} {ok : β → Sl → Prop} {Q : List V → Hp → Prop} (h2 : ∀ σ0 σ G H S F Q, SR σ0 G H σ S F → (g S).wp (OkA p σ0 σ G H S F Q) (OkE σ0 σ G H S F W) → t σ H Q)
    (r : SR σ0 G H σ S F) (hw : ((g S).bind f).wp ok (OkE σ0 σ G H S F W))
    (k : ∀ ds S' vs G' H' F', SR σ0 G' H' σ S' F' → Gr p G H F S G' H' F' S' → FzL G' ds vs → (f ds S').wp ok (OkE σ0 σ G' H' S' F' W) → Q vs H') : t σ H Q :=
  h2 σ0 σ G H S F Q r (R.wp_mono (R.wp_bind hw) (fun d S' hx v G' H' F' r' g' z => k d S' v G' H' F' r' g' z (R.wp_mono hx (fun _ _ h => h) fun c w S' h => h.from g')) fun c w S' h => h)
theorem VT.then {g : Sl → R Bool} {t : TT} {β : Type} {f : Bool → Sl → R β} {ok : β → Sl → Prop} {Q : Bool → Hp → Prop} (h2 : ∀ σ0 σ G H S F Q, SR σ0 G H σ S F → (g S).wp (OkB p σ0 σ G H S F Q) (OkE σ0 σ G H S F W) → t σ H Q)
    (r : SR σ0 G H σ S F) (hw : ((g S).bind f).wp ok (OkE σ0 σ G H S F W))
    (k : ∀ b S' G' H' F', SR σ0 G' H' σ S' F' → Gr p G H F S G' H' F' S' → (f b S').wp ok (OkE σ0 σ G' H' S' F' W) → Q b H') : t σ H Q :=
  h2 σ0 σ G H S F Q r (R.wp_mono (R.wp_bind hw) (fun d S' hx G' H' F' r' g' => k d S' G' H' F' r' g' (R.wp_mono hx (fun _ _ h => h) fun c w S' h => h.from g')) fun c w S' h => h)

/-! ### names and constants -/
def D.atom : D → Bool
  | .non | .bl _ | .int _ | .str _ | .ty _ | .tup _ => true
  | _ => false
theorem Ow.atom {G H : Hp} {k : Nat} {d : D} {v : V} {fp : List Addr} (h : Ow G H k d v fp) (a : d.atom = true) : Fz G d v ∧ fp = [] := by
  cases k with
  | zero => exact h
  | succ k => cases d <;> first | exact h | cases a
/-- a name whose value is frozen -/
def gVar (i : Nat) : Sl → R D := fun S => match S[i]? with
  | some ⟨_, some (0, d)⟩ => .ok d S
  | some ⟨_, some (_ + 1, d)⟩ => if d.atom then .ok d S else .stuck
  | _ => .stuck
theorem vd_var (i : Nat) {x : Str} {pos : Pos} (hN : X.N[i]? = some x := by rfl) (hv : Vis X.env.scope x := by first | exact Or.inl rfl | exact Or.inr (Or.inl rfl) | exact Or.inr (Or.inr rfl)) (hd : (x == ("__debug__" : Str)) = false := by decide)
    (hcd : (x == ("__classdict__" : Str)) = false := by decide) : VD true X W (.Name x pos) (gVar i) := by
  refine ⟨_, pe_var hN hv hd hcd, fun σ0 σ G H S F Q r hw => ?_⟩
  unfold gVar at hw
  cases hc : S[i]? with
  | none => rw [hc] at hw; exact hw.elim
  | some c =>
    obtain ⟨pin, val⟩ := c
    obtain ⟨_, h2, _⟩ := r.row i _ hc
    rw [hc] at hw
    cases val with
    | none => exact hw.elim
    | some kd =>
      obtain ⟨k, d⟩ := kd
      obtain ⟨v, e1, e2⟩ := h2 k d rfl
      refine ⟨v, e1, ?_⟩
      cases k with
      | zero => exact hw v G H F r (.refl r) e2.1
      | succ k =>
        simp only at hw
        split at hw
        · rename_i ha
          exact hw v G H F r (.refl r) (e2.atom ha).1
        · exact hw.elim
def gC (d : D) : Sl → R D := fun S => .ok d S
theorem vd_c {d : D} {v : V} (h : PE X e (tC v)) (hf : ∀ G, Fz G d v) : VD true X W e (gC d) :=
  ⟨_, h, fun σ0 σ G H S F Q r hw => hw v G H F r (.refl r) (hf G)⟩
theorem vd_int {i : Int} {j pos} : VD true X W (.Constant (.int i) j pos) (gC (.int i)) := vd_c pe_int fun _ => rfl
theorem vd_bl {i : Bool} {j pos} : VD true X W (.Constant (.bool i) j pos) (gC (.bl i)) := vd_c pe_bl fun _ => rfl
theorem vd_non {j pos} : VD true X W (.Constant .none j pos) (gC .non) := vd_c pe_non fun _ => rfl
theorem vd_str {i : Str} {j pos} : VD true X W (.Constant (.str i) j pos) (gC (.str i)) := vd_c pe_str fun _ => rfl

/-! ### operators -/
def gOp (h : D → D → Option D) (ga gb : Sl → R D) : Sl → R D := fun S => (ga S).bind fun x S1 => (gb S1).bind fun y S2 => match h x y with | some d => .ok d S2 | none => .stuck
def OpD (r : R2) (h : D → D → Option D) : Prop := ∀ x y d, h x y = some d → ∀ G H v u Q, Fz G x v → Fz G y u → Inc G H → (∀ w, Fz G d w → Q w H) → r v u H Q
theorem op_two {ta tb : TE} {r2 : R2} {h : D → D → Option D} (hr : OpD r2 h) {ga gb : Sl → R D} {Q : VK}
    (ha : ∀ σ0 σ G H S F Q, SR σ0 G H σ S F → (ga S).wp (OkD p σ0 σ G H S F Q) (OkE σ0 σ G H S F W) → ta σ H Q)
    (hb : ∀ σ0 σ G H S F Q, SR σ0 G H σ S F → (gb S).wp (OkD q σ0 σ G H S F Q) (OkE σ0 σ G H S F W) → tb σ H Q)
    (r : SR σ0 G H σ S F) (hw : (gOp h ga gb S).wp (OkD (p && q) σ0 σ G H S F Q) (OkE σ0 σ G H S F W)) : tOp r2 ta tb σ H Q := by
  refine VD.then (t := ta) ha r hw fun x S1 v G1 H1 F1 r1 g1 z1 hw1 => ?_
  refine VD.then (t := tb) hb r1 hw1 fun y S2 u G2 H2 F2 r2 g2 z2 hw2 => ?_
  cases hd : h x y with
  | none => rw [hd] at hw2; exact hw2.elim
  | some d =>
    rw [hd] at hw2
    exact hr x y d hd G2 H2 v u _ (z1.inc g2.up) z2 r2.inc fun w z => hw2 w G2 H2 F2 r2 (g1.trans g2) z
theorem vd_op {op : Operator} {r2 : R2} {pos : Pos} {h : D → D → Option D} {ga gb : Sl → R D} (ho : OpR X (binaryOp op) r2) (hr : OpD r2 h) (a : VD p X W ea ga) (b : VD q X W eb gb) : VD (p && q) X W (.BinOp ea op eb pos) (gOp h ga gb) := by
  obtain ⟨ta, a1, a2⟩ := a
  obtain ⟨tb, b1, b2⟩ := b
  exact ⟨_, pe_op ho a1 b1, fun σ0 σ G H S F Q r hw => op_two hr a2 b2 r hw⟩
theorem vd_cmp {op : CmpOp} {r2 : R2} {pos : Pos} {h : D → D → Option D} {ga gb : Sl → R D} (ho : OpR X (compareOp op) r2) (hr : OpD r2 h) (hm : behindInMarks op eb = false) (a : VD p X W ea ga) (b : VD q X W eb gb) :
    VD (p && q) X W (.Compare ea [op] [eb] pos) (gOp h ga gb) := by
  obtain ⟨ta, a1, a2⟩ := a
  obtain ⟨tb, b1, b2⟩ := b
  exact ⟨_, pe_cmpR ho a1 b1 hm, fun σ0 σ G H S F Q r hw => op_two hr a2 b2 r hw⟩
/-- the bool that a test wants -/
def gBool (g : Sl → R D) : Sl → R Bool := fun S => (g S).bind fun d S' => match d with | .bl b => .ok b S' | _ => .stuck
theorem vt_cmp {op : CmpOp} {r2 : R2} {pos : Pos} {h : D → D → Option D} {ga gb : Sl → R D} (ho : OpR X (compareOp op) r2) (hr : OpD r2 h) (hm : behindInMarks op eb = false) (a : VD p X W ea ga) (b : VD q X W eb gb) :
    VT (p && q) X W (.Compare ea [op] [eb] pos) (gBool (gOp h ga gb)) := by
  obtain ⟨ta, a1, a2⟩ := a
  obtain ⟨tb, b1, b2⟩ := b
  refine ⟨_, pt_cmpR ho a1 b1 hm, fun σ0 σ G H S F Q r hw => op_two (Q := fun x H' => ∃ k, x = .bl k ∧ Q k H') hr a2 b2 r ?_⟩
  refine R.wp_mono (R.wp_bind hw) (fun d S' hd v G' H' F' r' g' z => ?_) fun _ _ _ h => h
  cases d <;> first | exact hd.elim | skip
  exact ⟨_, z, hd G' H' F' r' g'⟩
/-- an expression that gives a bool, as a test -/
theorem vt_val {g : Sl → R D} (h : VD p X W e g) (ht : ∀ t, PE X e t → PT X e (tTest t)) : VT p X W e (gBool g) := by
  obtain ⟨t, h1, h2⟩ := h
  refine ⟨_, ht t h1, fun σ0 σ G H S F Q r hw => ?_⟩
  refine h2 σ0 σ G H S F _ r (R.wp_mono (R.wp_bind hw) (fun d S' hd v G' H' F' r' g' z => ?_) fun _ _ _ h => h)
  cases d <;> first | exact hd.elim | skip
  exact ⟨_, z, hd G' H' F' r' g'⟩
end

/-! ### int operators -/
def hI (C : Int → Int → Bool) (f : Int → Int → Int) : D → D → Option D
  | .int i, .int j => if C i j then some (.int (f i j)) else none
  | _, _ => none
def hB (f : Int → Int → Bool) : D → D → Option D
  | .int i, .int j => some (.bl (f i j))
  | _, _ => none
theorem opd_I {C : Int → Int → Bool} {C' : Int → Int → Prop} {f : Int → Int → Int} (hC : ∀ i j, C i j = true → C' i j) : OpD (rI C' fun i j => .int (f i j)) (hI C f) := by
  intro x y d hd G H v u Q zx zy _ k
  cases x <;> cases y <;> first | (simp [hI] at hd; done) | skip
  rename_i i j
  simp only [hI] at hd
  split at hd
  · rename_i hc
    cases hd
    simp only [Fz] at zx zy
    exact ⟨i, j, zx, zy, hC _ _ hc, k _ rfl⟩
  · cases hd
theorem opd_I0 {f : Int → Int → Int} : OpD (rI0 fun i j => .int (f i j)) (hI (fun _ _ => true) f) := by
  intro x y d hd G H v u Q zx zy _ k
  cases x <;> cases y <;> first | (simp [hI] at hd; done) | skip
  rename_i i j
  simp only [hI, if_pos] at hd
  cases hd
  simp only [Fz] at zx zy
  exact ⟨i, j, zx, zy, k _ rfl⟩
theorem opd_B {f : Int → Int → Bool} : OpD (rI0 fun i j => .bl (f i j)) (hB f) := by
  intro x y d hd G H v u Q zx zy _ k
  cases x <;> cases y <;> first | (simp [hB] at hd; done) | skip
  rename_i i j
  cases hd
  simp only [Fz] at zx zy
  exact ⟨i, j, zx, zy, k _ rfl⟩
abbrev dAdd := hI (fun _ _ => true) (fun i j => i + j)
abbrev dSub := hI (fun _ _ => true) (fun i j => i - j)
def cMul (i j : Int) : Bool := decide ((-(2 ^ 64) < i ∧ i < 2 ^ 64) ∨ (-(2 ^ 64) < j ∧ j < 2 ^ 64))
abbrev dMul := hI cMul (fun i j => i * j)
abbrev dMod := hI (fun _ j => decide (0 < j)) (fun i j => i % j)
abbrev dDiv := hI (fun _ j => decide (0 < j ∧ j < 1073741824)) (fun i j => i / j)
abbrev dLt := hB fun i j => decide (i < j)
abbrev dLe := hB fun i j => decide (i ≤ j)
abbrev dGt := hB fun i j => decide (j < i)
abbrev dGe := hB fun i j => decide (j ≤ i)
end VL

set_option Elab.async false
set_option linter.all false
set_option autoImplicit false
set_option maxRecDepth 100000
namespace VL
open PySem PySem.Spec L2
open PyProof.Rows hiding St

section
variable {X : Cx} {W : WX} {p q : Bool} {e ea eb : Expr} {es : List Expr} {pos : Pos}
variable {σ0 σ : St} {G H G1 H1 G2 H2 : Hp} {F F1 F2 : Fps} {S S1 S2 : Sl}

/-! ### a new object -/
theorem inc_new {a : Addr} {o : HO} (h : H a = none) : Inc H (upd H a o) := fun b u e => by
  rw [upd_ne (ne_of_none e h)]; exact e
theorem SR.new {a : Addr} {o : HO} (r : SR σ0 G H σ S F) (h : H a = none) (ho : ∀ us, o ≠ .tup us := by intro _ z; cases z) : SR σ0 G (upd H a o) σ S F :=
  ⟨r.len, fun i c hc => by
    obtain ⟨h1, h2, h3⟩ := r.row i c hc
    refine ⟨h1, fun k d e => ?_, h3⟩
    obtain ⟨v, e1, e2⟩ := h2 k d e
    exact ⟨v, e1, e2.keep (Inc.refl _) fun b hb o' ho => inc_new h b o' ho⟩, r.out, r.nd, r.dj, r.fs, r.inc.trans (inc_new h), fun b us e => by
    by_cases hb : b = a
    · subst hb; rw [upd_same] at e; exact absurd (Option.some.inj e) (ho us)
    · rw [upd_ne hb] at e; exact r.tp b us e⟩
theorem Gr.new' {a : Addr} {o : HO} (r : SR σ0 G H σ S F) (h : H a = none) : Gr p G H F S G (upd H a o) F S :=
  ⟨Inc.refl _, fun b hb => .inl hb, fun b u e _ => inc_new h b u e, fun i b hb => .inl ⟨i, hb⟩, fun _ => ⟨rfl, rfl, inc_new h, fun b hb => .inl hb⟩⟩
/-- a new object that is frozen at once -/
theorem SR.newG {a : Addr} {o : HO} (r : SR σ0 G H σ S F) (h : H a = none) : SR σ0 (upd G a o) (upd H a o) σ S F := by
  have i1 : Inc G (upd G a o) := inc_new (r.gNone h)
  have notF : ∀ i, a ∉ F i := fun i hi => by
    obtain ⟨o, ho⟩ := r.dom hi
    rw [h] at ho; cases ho
  refine ⟨r.len, fun i c hc => ?_, r.out, r.nd, r.dj, fun i b hb => ?_, fun b u e => ?_, fun b us e => ?_⟩
  · obtain ⟨h1, h2, h3⟩ := r.row i c hc
    refine ⟨h1, fun k d e => ?_, h3⟩
    obtain ⟨v, e1, e2⟩ := h2 k d e
    exact ⟨v, e1, e2.keep i1 fun b hb o' ho => inc_new h b o' ho⟩
  · rw [upd_ne (fun e : b = a => notF i (by rw [← e]; exact hb))]
    exact r.fs i b hb
  · by_cases hba : b = a
    · subst hba; rw [upd_same] at e; cases e; exact upd_same
    · rw [upd_ne hba] at e
      rw [upd_ne hba]
      exact r.inc b u e
  · by_cases hba : b = a
    · subst hba; rw [upd_same] at e; cases e; exact upd_same
    · rw [upd_ne hba] at e
      rw [upd_ne hba]
      exact r.tp b us e
theorem Gr.newG {a : Addr} {o : HO} (r1 : SR σ0 G1 H1 σ S1 F1) (g1 : Gr p G H F S G1 H1 F1 S1) (ha : H1 a = none) : Gr p G H F S (upd G1 a o) (upd H1 a o) F1 S1 := by
  have i1 : Inc G1 (upd G1 a o) := inc_new (r1.gNone ha)
  have g2 : Gr p G H F S G1 (upd H1 a o) F1 S1 := (g1.trans (Gr.new' (p := true) r1 ha)).weak fun h => by simpa using h
  have back : H a = none ∨ ∃ j, a ∈ F j := (g1.back (.inr ha)).symm
  refine ⟨g2.up.trans i1, fun b hb => ?_, g2.fr, g2.src, fun hp => ?_⟩
  · by_cases hba : b = a
    · subst hba; exact .inr (back.symm)
    · rw [upd_ne hba] at hb; exact g2.new b hb
  · obtain ⟨p1, p2, p3, p4⟩ := g1.pure hp
    refine ⟨p1, p2, p3.trans (inc_new ha), fun b hb => ?_⟩
    by_cases hba : b = a
    · subst hba
      right
      cases e : H b with
      | none => rfl
      | some u => rw [p3 b u e] at ha; cases ha
    · rw [upd_ne hba] at hb; exact p4 b hb
theorem SR.notF {a : Addr} (r : SR σ0 G H σ S F) (h : H a = none) (i : Nat) : a ∉ F i := fun hi => by
  obtain ⟨o, ho⟩ := r.dom hi
  rw [h] at ho; cases ho
theorem VP.one {a : Addr} {o : HO} {k : Nat} {d : D} (r : SR σ0 G H σ S F) (h : H a = none) (hO : Ow G (upd H a o) k d (.ref a) [a]) : VP H F G (upd H a o) F ⟨false, k, d⟩ (.ref a) [a] :=
  ⟨hO, fun _ => by simp, fun _ b hb => by
    have e : b = a := by simpa using hb
    subst e; exact .inr h, fun _ i b hb => by
    have e : b = a := by simpa using hb
    subst e; exact r.notF h i, fun _ b hb => by
    have e : b = a := by simpa using hb
    subst e; exact r.gNone h⟩
theorem owL_fz {ds : List D} {vs : List V} (h : FzL G ds vs) : OwL (Ow G H 0) ds vs [] := by
  induction ds generalizing vs with
  | nil => simp only [FzL] at h; subst h; exact ⟨rfl, rfl⟩
  | cons d ds ih =>
    simp only [FzL] at h
    obtain ⟨v, r, rfl, h1, h2⟩ := h
    exact ⟨v, r, [], [], rfl, rfl, ⟨h1, rfl⟩, ih h2⟩
/-- what a rule that makes a new list of frozen items brings -/
theorem new_lst {ds : List D} {vs : List V} {Q : VK} {S' : Sl} (r1 : SR σ0 G1 H1 σ S1 F1) (g1 : Gr p G H F S G1 H1 F1 S1) (z : FzL G1 ds vs) (hq : OkV p σ0 σ G H S F Q ⟨false, 1, .lst ds⟩ S1) : ∀ a, H1 a = none → Q (.ref a) (upd H1 a (.lst vs)) := fun a ha =>
  hq (.ref a) [a] G1 _ F1 (r1.new ha) ((g1.trans (Gr.new' (p := true) r1 ha)).weak fun h => by simpa using h) (VP.from g1 (VP.one r1 ha ⟨a, vs, [], rfl, upd_same, rfl, owL_fz z⟩))
/-- .. a new tuple -/
theorem new_tup {ds : List D} {vs : List V} {Q : VK} {S' : Sl} (r1 : SR σ0 G1 H1 σ S1 F1) (g1 : Gr p G H F S G1 H1 F1 S1) (z : FzL G1 ds vs) (hq : OkD p σ0 σ G H S F Q (.tup ds) S1) : ∀ a, H1 a = none → Q (.ref a) (upd H1 a (.tup vs)) := fun a ha =>
  hq (.ref a) (upd G1 a (.tup vs)) _ F1 (r1.newG ha) (g1.newG r1 ha) ⟨a, vs, rfl, upd_same, z.inc (inc_new (r1.gNone ha))⟩

/-! ### argument lists, displays -/
def gNil : Sl → R (List D) := fun S => .ok [] S
def gCons (g : Sl → R D) (r : Sl → R (List D)) : Sl → R (List D) := fun S => (g S).bind fun d S1 => (r S1).bind fun ds S2 => .ok (d :: ds) S2
theorem va_nil : VA true X W [] gNil := ⟨_, pa_nil, fun σ0 σ G H S F Q r hw => hw [] G H F r (.refl r) .nil⟩
theorem va_cons {g : Sl → R D} {gr : Sl → R (List D)} (h : VD p X W e g) (hr : VA q X W es gr) (hs : starEach (e :: es) X.env = (false, eval e X.env) :: starEach es X.env := by rfl) : VA (p && q) X W (e :: es) (gCons g gr) := by
  obtain ⟨t, a1, a2⟩ := h
  obtain ⟨u, b1, b2⟩ := hr
  refine ⟨_, pa_cons a1 b1 hs, fun σ0 σ G H S F Q r hw => ?_⟩
  refine VD.then (t := t) a2 r hw fun x S1 v G1 H1 F1 r1 g1 z1 hw1 => ?_
  refine VA.then (t := u) b2 r1 hw1 fun ds S2 vs G2 H2 F2 r2 g2 z2 hw2 => ?_
  exact hw2 (v :: vs) G2 H2 F2 r2 (g1.trans g2) (.cons (z1.inc g2.up) z2)
/-- the length that lists and tuples may have -/
def lineOk {α : Type} (xs : List α) : Bool := decide (xs.length ≤ 16777216)
theorem lineOk.le {α : Type} {xs : List α} (h : lineOk xs = true) : xs.length ≤ sizeLine := by rw [sizeLine_eq]; exact of_decide_eq_true h
def gLst (g : Sl → R (List D)) : Sl → R Vl := fun S => (g S).bind fun ds S1 => if lineOk ds then .ok ⟨false, 1, .lst ds⟩ S1 else .stuck
def gTup (g : Sl → R (List D)) : Sl → R D := fun S => (g S).bind fun ds S1 => if lineOk ds then .ok (.tup ds) S1 else .stuck
theorem ve_lst {g : Sl → R (List D)} (h : VA p X W es g) : VE p X W (.List es pos) (gLst g) := by
  obtain ⟨t, a1, a2⟩ := h
  refine ⟨_, pe_lst a1, fun σ0 σ G H S F Q r hw => ?_⟩
  refine VA.then (t := t) a2 r hw fun ds S1 vs G1 H1 F1 r1 g1 z1 hw1 => ?_
  split at hw1
  · rename_i hl
    refine ⟨by rw [z1.length]; exact lineOk.le hl, new_lst (G := G) (H := H) (S := S) (F := F) (p := p) (S' := S1) r1 g1 z1 ?_⟩
    exact fun v fp G' H' F' r' g' z' => hw1 v fp G' H' F' r' g' z'
  · exact hw1.elim
theorem vd_tup {g : Sl → R (List D)} {x1} (h : VA p X W es g) : VD p X W (.Tuple es x1 pos) (gTup g) := by
  obtain ⟨t, a1, a2⟩ := h
  refine ⟨_, pe_tup a1, fun σ0 σ G H S F Q r hw => ?_⟩
  refine VA.then (t := t) a2 r hw fun ds S1 vs G1 H1 F1 r1 g1 z1 hw1 => ?_
  split at hw1
  · rename_i hl
    refine ⟨by rw [z1.length]; exact lineOk.le hl, new_tup (G := G) (H := H) (S := S) (F := F) (p := p) (S' := S1) r1 g1 z1 ?_⟩
    exact fun v G' H' F' r' g' z' => hw1 v G' H' F' r' g' z'
  · exact hw1.elim
end
end VL

set_option Elab.async false
set_option linter.all false
set_option autoImplicit false
set_option maxRecDepth 100000
namespace VL
open PySem PySem.Spec L2
open PyProof.Rows hiding St

/-! ## data as the library's data -/
mutual
def D.py : D → PyData
  | .non => .none | .bl b => .bool b | .int i => .int i | .str x => .str x
  | .lst xs => .list (D.pyL xs) | .tup xs => .tuple (D.pyL xs)
  | .ty _ => .none | .dK _ _ => .none | .dT _ _ => .none | .obj _ _ _ => .none | .exc _ _ _ _ => .none | .kl _ _ _ => .none
def D.pyL : List D → List PyData
  | [] => []
  | d :: ds => d.py :: D.pyL ds
end
mutual
def D.plain : D → Bool
  | .non | .bl _ | .int _ | .str _ => true
  | .lst xs => D.plainL xs
  | .tup xs => D.plainL xs
  | _ => false
def D.plainL : List D → Bool
  | [] => true
  | d :: ds => d.plain && D.plainL ds
end
theorem pyL_map : ∀ ds : List D, D.pyL ds = ds.map D.py
  | [] => rfl
  | d :: ds => by simp [D.pyL, pyL_map ds]
theorem plainL_all : ∀ ds : List D, D.plainL ds = ds.all D.plain
  | [] => rfl
  | d :: ds => by simp [D.plainL, plainL_all ds]
mutual
theorem D.py_plain : ∀ d : D, d.plain = true → d.py.plain = true
  | .non, _ => rfl
  | .bl _, _ => rfl
  | .int _, _ => rfl
  | .str _, _ => rfl
  | .lst xs, h => by
    simp only [D.py, PyData.plain]
    exact D.pyL_plain xs (by simpa [D.plain] using h)
  | .tup xs, h => by
    simp only [D.py, PyData.plain]
    exact D.pyL_plain xs (by simpa [D.plain] using h)
  | .ty _, h => by simp [D.plain] at h
  | .dK _ _, h => by simp [D.plain] at h
  | .dT _ _, h => by simp [D.plain] at h
  | .obj _ _ _, h => by simp [D.plain] at h
  | .exc _ _ _ _, h => by simp [D.plain] at h
  | .kl _ _ _, h => by simp [D.plain] at h
theorem D.pyL_plain : ∀ ds : List D, D.plainL ds = true → PyData.plainAll (D.pyL ds) = true
  | [], _ => rfl
  | d :: ds, h => by
    simp only [D.plainL, Bool.and_eq_true] at h
    simp only [D.pyL, PyData.plainAll, Bool.and_eq_true]
    exact ⟨D.py_plain d h.1, D.pyL_plain ds h.2⟩
end
mutual
theorem Fz.dp {K : PySem.W.Frag} {G : Hp} : ∀ (d : D) (v : V), d.plain = true → Fz G d v → Dp K G v d.py
  | .non, v, _, h => by simp only [Fz] at h; subst h; exact .non
  | .bl b, v, _, h => by simp only [Fz] at h; subst h; exact .bl b
  | .int b, v, _, h => by simp only [Fz] at h; subst h; exact .int b
  | .str b, v, _, h => by simp only [Fz] at h; subst h; exact .str b
  | .lst xs, v, hp, h => by
    simp only [Fz] at h
    obtain ⟨a, vs, rfl, r, q⟩ := h
    exact .lst (.inl (.inl r)) (FzL.dp xs vs (by simpa [D.plain] using hp) q)
  | .tup xs, v, hp, h => by
    simp only [Fz] at h
    obtain ⟨a, vs, rfl, r, q⟩ := h
    exact .tup (.inl (.inl r)) (FzL.dp xs vs (by simpa [D.plain] using hp) q)
  | .ty _, v, h, _ => by simp [D.plain] at h
  | .dK _ _, v, h, _ => by simp [D.plain] at h
  | .dT _ _, v, h, _ => by simp [D.plain] at h
  | .obj _ _ _, v, h, _ => by simp [D.plain] at h
  | .exc _ _ _ _, v, h, _ => by simp [D.plain] at h
  | .kl _ _ _, v, h, _ => by simp [D.plain] at h
theorem FzL.dp {K : PySem.W.Frag} {G : Hp} : ∀ (ds : List D) (vs : List V), D.plainL ds = true → FzL G ds vs → DpAll K G vs (D.pyL ds)
  | [], vs, _, h => by simp only [FzL] at h; subst h; exact .nil
  | d :: ds, vs, hp, h => by
    simp only [FzL] at h
    obtain ⟨v, r, rfl, h1, h2⟩ := h
    simp only [D.plainL, Bool.and_eq_true] at hp
    exact .cons (Fz.dp d v hp.1 h1) (FzL.dp ds r hp.2 h2)
end
mutual
theorem Dp.inc {K : PySem.W.Frag} {G H : Hp} (m : Inc G H) : ∀ (d : PyData) (v : V), Dp K G v d → Dp K H v d
  | .none, v, h => by cases h; exact .non
  | .bool _, v, h => by cases h; exact .bl _
  | .int _, v, h => by cases h; exact .int _
  | .str _, v, h => by cases h; exact .str _
  | .list ds, v, h => by cases h with | lst s q => exact .lst (s.imp (m.le.rd _ _) id) (DpAll.inc m ds _ q)
  | .tuple ds, v, h => by cases h with | tup s q => exact .tup (s.imp (m.le.rd _ _) id) (DpAll.inc m ds _ q)
  | .dict _, v, h => by cases h
theorem DpAll.inc {K : PySem.W.Frag} {G H : Hp} (m : Inc G H) : ∀ (ds : List PyData) (vs : List V), DpAll K G vs ds → DpAll K H vs ds
  | [], vs, h => by cases h; exact .nil
  | d :: ds, vs, h => by cases h with | cons a b => exact .cons (Dp.inc m d _ a) (DpAll.inc m ds _ b)
end
theorem owL_dp {K : PySem.W.Frag} {H : Hp} {P : D → V → List Addr → Prop} : ∀ {ds : List D} {vs : List V} {fp : List Addr}, D.plainL ds = true → (∀ d v f, d.plain = true → P d v f → Dp K H v d.py) → OwL P ds vs fp → DpAll K H vs (D.pyL ds)
  | [], vs, fp, _, _, h => by obtain ⟨rfl, _⟩ := h; exact .nil
  | d :: ds, vs, fp, hp, m, h => by
    obtain ⟨v, r, f, g, rfl, _, h1, h2⟩ := h
    simp only [D.plainL, Bool.and_eq_true] at hp
    exact .cons (m d v f hp.1 h1) (owL_dp hp.2 m h2)
theorem Ow.dp {K : PySem.W.Frag} {G H : Hp} (m : Inc G H) : ∀ {k : Nat} {d : D} {v : V} {fp : List Addr}, d.plain = true → Ow G H k d v fp → Dp K H v d.py
  | 0, d, v, fp, hp, h => (h.1.inc m).dp d v hp
  | k + 1, .lst ds, v, fp, hp, h => by
    obtain ⟨a, vs, f, rfl, r, _, z⟩ := h
    exact .lst (.inl (.inl r)) (owL_dp (by simpa [D.plain] using hp) (fun d v f hp h => Ow.dp m hp h) z)
  | k + 1, .dK ks ds, v, fp, hp, h => by simp [D.plain] at hp
  | k + 1, .dT ks ds, v, fp, hp, h => by simp [D.plain] at hp
  | k + 1, .obj c ns ds, v, fp, hp, h => by simp [D.plain] at hp
  | k + 1, .exc _ _ _ _, v, fp, hp, h => by simp [D.plain] at hp
  | k + 1, .kl _ _ _, v, fp, hp, h => by simp [D.plain] at hp
  | k + 1, .non, v, fp, hp, h => Fz.dp (G := H) _ v hp (h.1.inc m)
  | k + 1, .bl b, v, fp, hp, h => Fz.dp (G := H) _ v hp (h.1.inc m)
  | k + 1, .int b, v, fp, hp, h => Fz.dp (G := H) _ v hp (h.1.inc m)
  | k + 1, .str b, v, fp, hp, h => Fz.dp (G := H) _ v hp (h.1.inc m)
  | k + 1, .ty b, v, fp, hp, h => by simp [D.plain] at hp
  | k + 1, .tup b, v, fp, hp, h => Fz.dp (G := H) _ v hp (h.1.inc m)

/-! ## values that are read, owned or frozen -/
def Rv (G H : Hp) (d : D) (v : V) : Prop := ∃ k fp, Ow G H k d v fp
/-- the same, the items of a list being frozen -/
def Rv1 (G H : Hp) (d : D) (v : V) : Prop := ∃ k fp, k ≤ 1 ∧ Ow G H k d v fp
theorem Fz.rv {G H : Hp} {d : D} {v : V} (h : Fz G d v) : Rv G H d v := ⟨0, [], h, rfl⟩
theorem Fz.rv1 {G H : Hp} {d : D} {v : V} (h : Fz G d v) : Rv1 G H d v := ⟨0, [], by decide, h, rfl⟩
theorem Rv1.rv {G H : Hp} {d : D} {v : V} (h : Rv1 G H d v) : Rv G H d v := let ⟨k, fp, _, z⟩ := h; ⟨k, fp, z⟩
theorem Rv.dp {K : PySem.W.Frag} {G H : Hp} {d : D} {v : V} (h : Rv G H d v) (m : Inc G H) (hp : d.plain = true) : Dp K H v d.py := let ⟨_, _, z⟩ := h; z.dp m hp
theorem Rv.int {G H : Hp} {i : Int} {v : V} (h : Rv G H (.int i) v) : v = .int i := by
  obtain ⟨k, fp, z⟩ := h
  have := (z.atom rfl).1
  simpa [Fz] using this
theorem Rv.bl {G H : Hp} {i : Bool} {v : V} (h : Rv G H (.bl i) v) : v = .bl i := by
  obtain ⟨k, fp, z⟩ := h
  have := (z.atom rfl).1
  simpa [Fz] using this
theorem Rv.str {G H : Hp} {i : Str} {v : V} (h : Rv G H (.str i) v) : v = .str i := by
  obtain ⟨k, fp, z⟩ := h
  have := (z.atom rfl).1
  simpa [Fz] using this
theorem Rv.non {G H : Hp} {v : V} (h : Rv G H .non v) : v = .non := by
  obtain ⟨k, fp, z⟩ := h
  have := (z.atom rfl).1
  simpa [Fz] using this
theorem OwL.get {P : D → V → List Addr → Prop} : ∀ {ds : List D} {vs : List V} {fp : List Addr} {i : Nat} {d : D}, OwL P ds vs fp → ds[i]? = some d → ∃ v f, vs[i]? = some v ∧ P d v f ∧ ∀ a ∈ f, a ∈ fp
  | [], vs, fp, i, d, h, e => by simp at e
  | d0 :: ds, vs, fp, 0, d, h, e => by
    obtain ⟨v, r, f, g, rfl, rfl, h1, h2⟩ := h
    simp at e; subst e
    exact ⟨v, f, rfl, h1, fun a ha => List.mem_append_left _ ha⟩
  | d0 :: ds, vs, fp, i + 1, d, h, e => by
    obtain ⟨v, r, f, g, rfl, rfl, h1, h2⟩ := h
    obtain ⟨u, f', e1, e2, e3⟩ := OwL.get (i := i) h2 (by simpa using e)
    exact ⟨u, f', by simpa using e1, e2, fun a ha => List.mem_append_right _ (e3 a ha)⟩
theorem Rv.lst {G H : Hp} {ds : List D} {v : V} (h : Rv G H (.lst ds) v) (m : Inc G H) : ∃ a vs, v = .ref a ∧ H a = some (.lst vs) ∧ vs.length = ds.length ∧ ∀ (i : Nat) (d : D), ds[i]? = some d → ∃ u, vs[i]? = some u ∧ Rv G H d u := by
  obtain ⟨k, fp, z⟩ := h
  cases k with
  | zero =>
    obtain ⟨z, _⟩ := z
    simp only [Fz] at z
    obtain ⟨a, vs, e, r, q⟩ := z
    exact ⟨a, vs, e, m _ _ r, q.length, fun i d hd => let ⟨u, e1, e2⟩ := q.get hd; ⟨u, e1, e2.rv⟩⟩
  | succ k =>
    obtain ⟨a, vs, f, e, r, _, q⟩ := z
    exact ⟨a, vs, e, r, q.length, fun i d hd => let ⟨u, f', e1, e2, _⟩ := q.get hd; ⟨u, e1, k, f', e2⟩⟩
theorem OwL.fz0 {G H : Hp} : ∀ {ds : List D} {vs : List V} {fp : List Addr}, OwL (Ow G H 0) ds vs fp → FzL G ds vs
  | [], vs, fp, h => by obtain ⟨rfl, _⟩ := h; exact .nil
  | d :: ds, vs, fp, h => by
    obtain ⟨v, r, f, g, rfl, _, h1, h2⟩ := h
    exact .cons h1.1 (OwL.fz0 h2)
theorem Rv1.lst {G H : Hp} {ds : List D} {v : V} (h : Rv1 G H (.lst ds) v) (m : Inc G H) : ∃ a vs, v = .ref a ∧ H a = some (.lst vs) ∧ FzL G ds vs := by
  obtain ⟨k, fp, hk, z⟩ := h
  rcases Nat.le_one_iff_eq_zero_or_eq_one.mp hk with rfl | rfl
  · obtain ⟨z, _⟩ := z
    simp only [Fz] at z
    obtain ⟨a, vs, e, r, q⟩ := z
    exact ⟨a, vs, e, m _ _ r, q⟩
  · obtain ⟨a, vs, f, e, r, _, q⟩ := z
    exact ⟨a, vs, e, r, OwL.fz0 q⟩
theorem Rv.tup {G H : Hp} {ds : List D} {v : V} (h : Rv G H (.tup ds) v) (m : Inc G H) : ∃ a vs, v = .ref a ∧ H a = some (.tup vs) ∧ FzL G ds vs := by
  obtain ⟨k, fp, z⟩ := h
  have z := (z.atom rfl).1
  simp only [Fz] at z
  obtain ⟨a, vs, e, r, q⟩ := z
  exact ⟨a, vs, e, m _ _ r, q⟩
theorem FzL.ints {G : Hp} : ∀ {ns : List Int} {vs : List V}, FzL G (ns.map D.int) vs → vs = ns.map V.int
  | [], vs, h => by simpa [FzL] using h
  | n :: ns, vs, h => by
    simp only [List.map_cons, FzL, Fz] at h
    obtain ⟨v, r, rfl, rfl, h2⟩ := h
    simp [FzL.ints h2]
theorem FzL.bls {G : Hp} : ∀ {ns : List Bool} {vs : List V}, FzL G (ns.map D.bl) vs → vs = ns.map V.bl
  | [], vs, h => by simpa [FzL] using h
  | n :: ns, vs, h => by
    simp only [List.map_cons, FzL, Fz] at h
    obtain ⟨v, r, rfl, rfl, h2⟩ := h
    simp [FzL.bls h2]
/-- the ints of a list of ints -/
def D.ints : List D → Option (List Int)
  | [] => some []
  | .int i :: ds => (D.ints ds).map (i :: ·)
  | _ => none
theorem D.ints_map : ∀ {ds : List D} {ns : List Int}, D.ints ds = some ns → ds = ns.map D.int
  | [], ns, h => by cases h; rfl
  | .int i :: ds, ns, h => by
    simp only [D.ints, Option.map_eq_some_iff] at h
    obtain ⟨m, h1, rfl⟩ := h
    simp [D.ints_map h1]
  | .non :: _, _, h => by cases h
  | .bl _ :: _, _, h => by cases h
  | .str _ :: _, _, h => by cases h
  | .ty _ :: _, _, h => by cases h
  | .lst _ :: _, _, h => by cases h
  | .tup _ :: _, _, h => by cases h
  | .dK _ _ :: _, _, h => by cases h
  | .dT _ _ :: _, _, h => by cases h
  | .obj _ _ _ :: _, _, h => by cases h
  | .exc _ _ _ _ :: _, _, h => by cases h
  | .kl _ _ _ :: _, _, h => by cases h
theorem D.ints_of (ns : List Int) : D.ints (ns.map D.int) = some ns := by
  induction ns with
  | nil => rfl
  | cons n ns ih => simp [D.ints, ih]
end VL

set_option Elab.async false
set_option linter.all false
set_option autoImplicit false
set_option maxRecDepth 100000
namespace VL
open PySem PySem.Spec L2
open PyProof.Rows hiding St

section
variable {X : Cx} {W : WX} {p q : Bool} {e ea eb : Expr} {es : List Expr} {pos : Pos}
variable {σ0 σ : St} {G H G1 H1 G2 H2 : Hp} {F F1 F2 : Fps} {S S1 S2 : Sl}

theorem VP.rv {x : Vl} {v : V} {fp : List Addr} (z : VP H F G1 H1 F1 x v fp) : Rv G1 H1 x.d v := ⟨x.k, fp, z.ow⟩
/-- a value that a reader takes: what is borrowed may be two deep -/
def Vl.lev (x : Vl) : Bool := decide (x.k ≤ 1)
theorem VP.rv1 {x : Vl} {v : V} {fp : List Addr} (z : VP H F G1 H1 F1 x v fp) (h : x.lev = true) : Rv1 G1 H1 x.d v := ⟨x.k, fp, of_decide_eq_true h, z.ow⟩

/-! ### a name that is owned: read where it stands, moved, frozen -/
def gBor (i : Nat) : Sl → R Vl := fun S => match S[i]? with
  | some ⟨_, some (k, d)⟩ => .ok ⟨true, k, d⟩ S
  | _ => .stuck
theorem ve_bor (i : Nat) {x : Str} {pos : Pos} (hN : X.N[i]? = some x := by rfl) (hv : Vis X.env.scope x := by first | exact Or.inl rfl | exact Or.inr (Or.inl rfl) | exact Or.inr (Or.inr rfl)) (hd : (x == ("__debug__" : Str)) = false := by decide)
    (hcd : (x == ("__classdict__" : Str)) = false := by decide) : VE true X W (.Name x pos) (gBor i) := by
  refine ⟨_, pe_var hN hv hd hcd, fun σ0 σ G H S F Q r hw => ?_⟩
  unfold gBor at hw
  cases hc : S[i]? with
  | none => rw [hc] at hw; exact hw.elim
  | some c =>
    obtain ⟨pin, val⟩ := c
    obtain ⟨_, h2, _⟩ := r.row i _ hc
    rw [hc] at hw
    cases val with
    | none => exact hw.elim
    | some kd =>
      obtain ⟨k, d⟩ := kd
      obtain ⟨v, e1, e2⟩ := h2 k d rfl
      exact ⟨v, e1, hw v (F i) G H F r (.refl r) ⟨e2, (fun h => nomatch h), (fun h => nomatch h), (fun h => nomatch h), (fun h => nomatch h)⟩⟩
/-- a cell is emptied or filled -/
def Sl.put (S : Sl) (i : Nat) (v : Option (Nat × D)) : Sl := match S[i]? with
  | some c => S.set i ⟨c.pin, v⟩
  | none => S
def fpPut (F : Fps) (i : Nat) (f : List Addr) : Fps := fun j => if j = i then f else F j
theorem put_length (S : Sl) (i : Nat) (v : Option (Nat × D)) : (S.put i v).length = S.length := by
  unfold Sl.put
  cases S[i]? <;> simp
theorem put_at {S : Sl} {i : Nat} {c : Cell} {v : Option (Nat × D)} (h : S[i]? = some c) (j : Nat) : (S.put i v)[j]? = if j = i then some ⟨c.pin, v⟩ else S[j]? := by
  unfold Sl.put
  rw [h]
  have hi := (List.getElem?_eq_some_iff.mp h).1
  by_cases hj : j = i
  · subst hj; simp [List.getElem?_set_self hi]
  · rw [List.getElem?_set_ne (Ne.symm hj), if_neg hj]
/-- a cell is changed: its new content is held with the footprint f -/
theorem SR.put {i : Nat} {c : Cell} {w : Option (Nat × D)} {f : List Addr} {σ' : St} (r : SR σ0 G H σ S F) (hc : S[i]? = some c) (hl : σ'.length = σ.length) (hσ : ∀ j, j ≠ i → σ'[j]? = σ[j]?) (hp : c.pin = true → σ'[i]? = σ[i]?)
    (hw : ∀ k d, w = some (k, d) → ∃ v, σ'[i]? = some (some v) ∧ Ow G H k d v f) (hn : w = none → f = []) (nd : f.Nodup) (dj : ∀ j, j ≠ i → ∀ a ∈ f, a ∉ F j) (fs : ∀ a ∈ f, G a = none) : SR σ0 G H σ' (S.put i w) (fpPut F i f) where
  len := by rw [hl, put_length]; exact r.len
  row := fun j cj hj => by
    rw [put_at hc] at hj
    by_cases hji : j = i
    · subst hji
      rw [if_pos rfl] at hj; cases hj
      obtain ⟨h1, _, _⟩ := r.row j c hc
      simp only [fpPut, if_pos]
      exact ⟨fun hp' => (hp hp').trans (h1 hp'), fun k d e => hw k d e, hn⟩
    · rw [if_neg hji] at hj
      obtain ⟨h1, h2, h3⟩ := r.row j cj hj
      simp only [fpPut, if_neg hji]
      rw [hσ j hji]
      exact ⟨h1, h2, h3⟩
  out := fun j hj => by
    rw [put_length] at hj
    have hi := (List.getElem?_eq_some_iff.mp hc).1
    simp only [fpPut, if_neg (show ¬ j = i by omega)]
    exact r.out j hj
  nd := fun j => by
    by_cases hji : j = i
    · subst hji; simpa [fpPut] using nd
    · simpa [fpPut, hji] using r.nd j
  dj := fun j l a h1 h2 => by
    by_cases hji : j = i
    · by_cases hli : l = i
      · rw [hji, hli]
      · simp only [fpPut, if_pos hji] at h1
        simp only [fpPut, if_neg hli] at h2
        exact absurd h2 (dj l hli a h1)
    · simp only [fpPut, if_neg hji] at h1
      by_cases hli : l = i
      · simp only [fpPut, if_pos hli] at h2
        exact absurd h1 (dj j hji a h2)
      · simp only [fpPut, if_neg hli] at h2
        exact r.dj j l a h1 h2
  fs := fun j a h => by
    by_cases hji : j = i
    · simp only [fpPut, if_pos hji] at h; exact fs a h
    · simp only [fpPut, if_neg hji] at h; exact r.fs j a h
  inc := r.inc
  tp := r.tp
def gMov (i : Nat) : Sl → R Vl := fun S => match S[i]? with
  | some ⟨_, some (k, d)⟩ => .ok ⟨false, k, d⟩ (S.put i none)
  | _ => .stuck
theorem ve_mov (i : Nat) {x : Str} {pos : Pos} (hN : X.N[i]? = some x := by rfl) (hv : Vis X.env.scope x := by first | exact Or.inl rfl | exact Or.inr (Or.inl rfl) | exact Or.inr (Or.inr rfl)) (hd : (x == ("__debug__" : Str)) = false := by decide)
    (hcd : (x == ("__classdict__" : Str)) = false := by decide) : VE false X W (.Name x pos) (gMov i) := by
  refine ⟨_, pe_var hN hv hd hcd, fun σ0 σ G H S F Q r hw => ?_⟩
  unfold gMov at hw
  cases hc : S[i]? with
  | none => rw [hc] at hw; exact hw.elim
  | some c =>
    obtain ⟨pin, val⟩ := c
    obtain ⟨_, h2, _⟩ := r.row i _ hc
    rw [hc] at hw
    cases val with
    | none => exact hw.elim
    | some kd =>
      obtain ⟨k, d⟩ := kd
      obtain ⟨v, e1, e2⟩ := h2 k d rfl
      refine ⟨v, e1, hw v (F i) G H (fpPut F i []) ?_ ?_ ?_⟩
      · exact r.put hc rfl (fun _ _ => rfl) (fun _ => rfl) (fun _ _ e => nomatch e) (fun _ => rfl) .nil (fun _ _ a h => by simp at h) fun a h => by simp at h
      · refine ⟨Inc.refl _, fun a h => .inl h, fun _ _ h _ => h, fun j a h => ?_, fun h => nomatch h⟩
        by_cases hj : j = i
        · simp [fpPut, hj] at h
        · simp only [fpPut, if_neg hj] at h; exact .inl ⟨j, h⟩
      · refine ⟨e2, fun _ => r.nd i, fun _ a h => .inl ⟨i, h⟩, fun _ j a h hj => ?_, fun _ a h => r.fs i a h⟩
        by_cases hji : j = i
        · simp [fpPut, hji] at hj
        · simp only [fpPut, if_neg hji] at hj
          exact hji (r.dj j i a hj h)
def gFrz (i : Nat) : Sl → R D := fun S => match S[i]? with
  | some ⟨_, some (_, d)⟩ => .ok d (S.put i (some (0, d)))
  | _ => .stuck
theorem vd_frz (i : Nat) {x : Str} {pos : Pos} (hN : X.N[i]? = some x := by rfl) (hv : Vis X.env.scope x := by first | exact Or.inl rfl | exact Or.inr (Or.inl rfl) | exact Or.inr (Or.inr rfl)) (hd : (x == ("__debug__" : Str)) = false := by decide)
    (hcd : (x == ("__classdict__" : Str)) = false := by decide) : VD false X W (.Name x pos) (gFrz i) := by
  refine ⟨_, pe_var hN hv hd hcd, fun σ0 σ G H S F Q r hw => ?_⟩
  unfold gFrz at hw
  cases hc : S[i]? with
  | none => rw [hc] at hw; exact hw.elim
  | some c =>
    obtain ⟨pin, val⟩ := c
    obtain ⟨_, h2, _⟩ := r.row i _ hc
    rw [hc] at hw
    cases val with
    | none => exact hw.elim
    | some kd =>
      obtain ⟨k, d⟩ := kd
      obtain ⟨v, e1, e2⟩ := h2 k d rfl
      have hi : Inc G (frzd G H (F i)) := frzd_inc fun a h => r.fs i a h
      have z : Fz (frzd G H (F i)) d v := e2.fz hi fun a h o ho => by rw [frzd_at h]; exact ho
      have r2 : SR σ0 G H σ (S.put i none) (fpPut F i []) := r.put hc rfl (fun _ _ => rfl) (fun _ => rfl) (fun _ _ e => nomatch e) (fun _ => rfl) .nil (fun _ _ a h => by simp at h) fun a h => by simp at h
      refine ⟨v, e1, hw v (frzd G H (F i)) H (fpPut F i []) ?_ ?_ z⟩
      · refine ⟨by rw [put_length]; exact r.len, fun j cj hj => ?_, fun j hj => ?_, r2.nd, r2.dj, fun j a h => ?_, fun a o h => ?_, frzd_tup r.tp⟩
        · rw [put_at hc] at hj
          by_cases hji : j = i
          · subst hji
            rw [if_pos rfl] at hj; cases hj
            refine ⟨(r.row j _ hc).1, fun k' d' e => ?_, fun e => nomatch e⟩
            cases e
            exact ⟨v, e1, z, by simp [fpPut]⟩
          · rw [if_neg hji] at hj
            obtain ⟨h1, h2, h3⟩ := r.row j cj hj
            simp only [fpPut, if_neg hji]
            refine ⟨h1, fun k' d' e => ?_, h3⟩
            obtain ⟨u, q1, q2⟩ := h2 k' d' e
            exact ⟨u, q1, q2.keep hi fun _ _ _ h => h⟩
        · rw [put_length] at hj
          exact r2.out j (by rw [put_length]; exact hj)
        · by_cases hji : j = i
          · simp [fpPut, hji] at h
          · simp only [fpPut, if_neg hji] at h
            rw [frzd_ne fun h' => hji (r.dj j i a h h')]
            exact r.fs j a h
        · by_cases hf : a ∈ F i
          · rw [frzd_at hf] at h; exact h
          · rw [frzd_ne hf] at h; exact r.inc a o h
      · refine ⟨hi, fun a h => ?_, fun _ _ h _ => h, fun j a h => ?_, fun h => nomatch h⟩
        · by_cases hf : a ∈ F i
          · exact .inr (.inl ⟨i, hf⟩)
          · rw [frzd_ne hf] at h; exact .inl h
        · by_cases hj : j = i
          · simp [fpPut, hj] at h
          · simp only [fpPut, if_neg hj] at h; exact .inl ⟨j, h⟩

/-! ### calls of built-ins -/
def gApp (h : List D → Option D) (ga : Sl → R (List D)) : Sl → R D := fun S => (ga S).bind fun ds S1 => match h ds with | some d => .ok d S1 | none => .stuck
def CallD (r : List V → Hp → VK → Prop) (h : List D → Option D) : Prop := ∀ ds d, h ds = some d → ∀ G H vs Q, FzL G ds vs → Inc G H → (∀ w, Fz G d w → Q w H) → r vs H Q
theorem vd_callB {x : Str} {pn : Pos} {id : String} {r : List V → Hp → VK → Prop} {h : List D → Option D} {ga : Sl → R (List D)} (hc : CallR X (.builtin id) r) (hr : CallD r h) (ha : VA p X W (e :: es) ga) (hg : Gl X x := by rfl) (hm : X.mg x = none) (hv : bootBuiltins x = some (.builtin id))
    (hn : x ≠ "__name__" := by decide) (hdb : (x == ("__debug__" : Str)) = false := by decide)
    (he : starEach (e :: es) X.env = (false, eval e X.env) :: starEach es X.env := by rfl) (hpl : (backTo pos (starEach es X.env)).any (·.1) = false := by rfl) : VD p X W (.Call (.Name x pn) (e :: es) [] pos) (gApp h ga) := by
  obtain ⟨t, a1, a2⟩ := ha
  refine ⟨_, pe_callB hc hg hm hv a1 hn hdb he hpl, fun σ0 σ G H S F Q r' hw => ?_⟩
  refine VA.then (t := t) a2 r' hw fun ds S1 vs G1 H1 F1 r1 g1 z1 hw1 => ?_
  cases hd : h ds with
  | none => rw [hd] at hw1; exact hw1.elim
  | some d =>
    rw [hd] at hw1
    exact hr ds d hd G1 H1 vs _ z1 r1.inc fun w z => hw1 w G1 H1 F1 r1 g1 z
theorem vd_callTy {x : Str} {pn : Pos} {id : String} {r : List V → Hp → VK → Prop} {h : List D → Option D} {ga : Sl → R (List D)} (hc : CallR X (.type id) r) (hr : CallD r h) (ha : VA p X W (e :: es) ga) (hg : Gl X x := by rfl) (hm : X.mg x = none) (hv : bootBuiltins x = some (.type id))
    (hn : x ≠ "__name__" := by decide) (hdb : (x == ("__debug__" : Str)) = false := by decide)
    (he : starEach (e :: es) X.env = (false, eval e X.env) :: starEach es X.env := by rfl) (hpl : (backTo pos (starEach es X.env)).any (·.1) = false := by rfl) : VD p X W (.Call (.Name x pn) (e :: es) [] pos) (gApp h ga) := by
  obtain ⟨t, a1, a2⟩ := ha
  refine ⟨_, pe_callTy hc hg hm hv a1 hn hdb he hpl, fun σ0 σ G H S F Q r' hw => ?_⟩
  refine VA.then (t := t) a2 r' hw fun ds S1 vs G1 H1 F1 r1 g1 z1 hw1 => ?_
  cases hd : h ds with
  | none => rw [hd] at hw1; exact hw1.elim
  | some d =>
    rw [hd] at hw1
    exact hr ds d hd G1 H1 vs _ z1 r1.inc fun w z => hw1 w G1 H1 F1 r1 g1 z
/-- one argument that is read, owned or not -/
def gApp1 (h : D → Option D) (g : Sl → R Vl) : Sl → R D := fun S => (g S).bind fun x S1 => match h x.d with | some d => .ok d S1 | none => .stuck
def CallV (r : List V → Hp → VK → Prop) (h : D → Option D) : Prop := ∀ x d, h x = some d → ∀ G H v Q, Rv G H x v → Inc G H → (∀ w, Fz G d w → Q w H) → r [v] H Q
theorem vd_callB1 {x : Str} {pn : Pos} {id : String} {r : List V → Hp → VK → Prop} {h : D → Option D} {g : Sl → R Vl} (hc : CallR X (.builtin id) r) (hr : CallV r h) (ha : VE p X W e g) (hg : Gl X x := by rfl) (hm : X.mg x = none) (hv : bootBuiltins x = some (.builtin id))
    (hn : x ≠ "__name__" := by decide) (hdb : (x == ("__debug__" : Str)) = false := by decide)
    (he : starEach [e] X.env = (false, eval e X.env) :: starEach [] X.env := by rfl) (hpl : (backTo pos (starEach [] X.env)).any (·.1) = false := by rfl) : VD p X W (.Call (.Name x pn) [e] [] pos) (gApp1 h g) := by
  obtain ⟨t, a1, a2⟩ := ha
  refine ⟨_, pe_callB hc hg hm hv (pa_cons a1 pa_nil he) hn hdb he hpl, fun σ0 σ G H S F Q r' hw => ?_⟩
  refine VE.then (t := t) a2 r' hw fun y S1 v fp G1 H1 F1 r1 g1 z1 hw1 => ?_
  cases hd : h y.d with
  | none => rw [hd] at hw1; exact hw1.elim
  | some d =>
    rw [hd] at hw1
    exact hr y.d d hd G1 H1 v _ z1.rv r1.inc fun w z => hw1 w G1 H1 F1 r1 g1 z
/-- one argument; a new list of frozen items comes -/
def gNew1 (h : D → Option (List D)) (g : Sl → R Vl) : Sl → R Vl := fun S => (g S).bind fun x S1 => if x.lev then (match h x.d with | some ds => .ok ⟨false, 1, .lst ds⟩ S1 | none => .stuck) else .stuck
def CallN (r : List V → Hp → VK → Prop) (h : D → Option (List D)) : Prop := ∀ x ds, h x = some ds → ∀ G H v Q, Rv1 G H x v → Inc G H → (∀ vs a, FzL G ds vs → H a = none → Q (.ref a) (upd H a (.lst vs))) → r [v] H Q
theorem new1_ok {r : List V → Hp → VK → Prop} {h : D → Option (List D)} {Q : VK} {y : Vl} {v : V} {fp : List Addr} (hr : CallN r h) (r1 : SR σ0 G1 H1 σ S1 F1) (g1 : Gr p G H F S G1 H1 F1 S1) (z1 : VP H F G1 H1 F1 y v fp)
    (hw1 : (if y.lev then (match h y.d with | some ds => R.ok (⟨false, 1, .lst ds⟩ : Vl) S1 | none => .stuck) else .stuck).wp (OkV p σ0 σ G H S F Q) (OkE σ0 σ G1 H1 S1 F1 W)) : r [v] H1 Q := by
  split at hw1
  · rename_i hl
    cases hd : h y.d with
    | none => rw [hd] at hw1; exact hw1.elim
    | some ds =>
      rw [hd] at hw1
      exact hr y.d ds hd G1 H1 v _ (z1.rv1 hl) r1.inc fun vs a z ha => new_lst (S' := S1) r1 g1 z hw1 a ha
  · exact hw1.elim
theorem ve_newB1 {x : Str} {pn : Pos} {id : String} {r : List V → Hp → VK → Prop} {h : D → Option (List D)} {g : Sl → R Vl} (hc : CallR X (.builtin id) r) (hr : CallN r h) (ha : VE p X W e g) (hg : Gl X x := by rfl) (hm : X.mg x = none) (hv : bootBuiltins x = some (.builtin id))
    (hn : x ≠ "__name__" := by decide) (hdb : (x == ("__debug__" : Str)) = false := by decide)
    (he : starEach [e] X.env = (false, eval e X.env) :: starEach [] X.env := by rfl) (hpl : (backTo pos (starEach [] X.env)).any (·.1) = false := by rfl) : VE p X W (.Call (.Name x pn) [e] [] pos) (gNew1 h g) := by
  obtain ⟨t, a1, a2⟩ := ha
  refine ⟨_, pe_callB hc hg hm hv (pa_cons a1 pa_nil he) hn hdb he hpl, fun σ0 σ G H S F Q r' hw => ?_⟩
  exact VE.then (t := t) a2 r' hw fun y S1 v fp G1 H1 F1 r1 g1 z1 hw1 => new1_ok (W := W) hr r1 g1 z1 hw1
theorem ve_newTy1 {x : Str} {pn : Pos} {id : String} {r : List V → Hp → VK → Prop} {h : D → Option (List D)} {g : Sl → R Vl} (hc : CallR X (.type id) r) (hr : CallN r h) (ha : VE p X W e g) (hg : Gl X x := by rfl) (hm : X.mg x = none) (hv : bootBuiltins x = some (.type id))
    (hn : x ≠ "__name__" := by decide) (hdb : (x == ("__debug__" : Str)) = false := by decide)
    (he : starEach [e] X.env = (false, eval e X.env) :: starEach [] X.env := by rfl) (hpl : (backTo pos (starEach [] X.env)).any (·.1) = false := by rfl) : VE p X W (.Call (.Name x pn) [e] [] pos) (gNew1 h g) := by
  obtain ⟨t, a1, a2⟩ := ha
  refine ⟨_, pe_callTy hc hg hm hv (pa_cons a1 pa_nil he) hn hdb he hpl, fun σ0 σ G H S F Q r' hw => ?_⟩
  exact VE.then (t := t) a2 r' hw fun y S1 v fp G1 H1 F1 r1 g1 z1 hw1 => new1_ok (W := W) hr r1 g1 z1 hw1
end
end VL

set_option Elab.async false
set_option linter.all false
set_option autoImplicit false
set_option maxRecDepth 100000
namespace VL
open PySem PySem.Spec L2
open PyProof.Rows hiding St

section
variable {X : Cx} {W : WX} {p q : Bool} {e ea eb : Expr} {es : List Expr} {pos : Pos}
variable {σ0 σ : St} {G H G1 H1 G2 H2 : Hp} {F F1 F2 : Fps} {S S1 S2 : Sl}

/-! ### two operands that are read, owned or not -/
def gOpV (q : Bool) (h : D → D → Option D) (ga gb : Sl → R Vl) : Sl → R D := fun S => (ga S).bind fun x S1 => (gb S1).bind fun y S2 => if x.b && !q then .stuck else match h x.d y.d with | some d => .ok d S2 | none => .stuck
def OpV (r : R2) (h : D → D → Option D) : Prop := ∀ x y d, h x y = some d → ∀ G H v u Q, Rv G H x v → Rv G H y u → Inc G H → (∀ w, Fz G d w → Q w H) → r v u H Q
theorem opV_two {ta tb : TE} {r2 : R2} {h : D → D → Option D} (hr : OpV r2 h) {ga gb : Sl → R Vl} {Q : VK}
    (ha : ∀ σ0 σ G H S F Q, SR σ0 G H σ S F → (ga S).wp (OkV p σ0 σ G H S F Q) (OkE σ0 σ G H S F W) → ta σ H Q)
    (hb : ∀ σ0 σ G H S F Q, SR σ0 G H σ S F → (gb S).wp (OkV q σ0 σ G H S F Q) (OkE σ0 σ G H S F W) → tb σ H Q)
    (r : SR σ0 G H σ S F) (hw : (gOpV q h ga gb S).wp (OkD (p && q) σ0 σ G H S F Q) (OkE σ0 σ G H S F W)) : tOp r2 ta tb σ H Q := by
  refine VE.then (t := ta) ha r hw fun x S1 v fp G1 H1 F1 r1 g1 z1 hw1 => ?_
  refine VE.then (t := tb) hb r1 hw1 fun y S2 u fq G2 H2 F2 r2 g2 z2 hw2 => ?_
  split at hw2
  · exact hw2.elim
  · rename_i hx
    have hx' : x.b = false ∨ q = true := by
      cases hb : x.b with
      | false => exact .inl rfl
      | true =>
        cases hq : q with
        | true => exact .inr rfl
        | false => rw [hb, hq] at hx; exact absurd rfl hx
    cases hd : h x.d y.d with
    | none => rw [hd] at hw2; exact hw2.elim
    | some d =>
      rw [hd] at hw2
      exact hr x.d y.d d hd G2 H2 v u _ (z1.carry g2 hx').rv z2.rv r2.inc fun w z => hw2 w G2 H2 F2 r2 (g1.trans g2) z
theorem vd_cmpV {op : CmpOp} {r2 : R2} {h : D → D → Option D} {ga gb : Sl → R Vl} (ho : OpR X (compareOp op) r2) (hr : OpV r2 h) (hm : behindInMarks op eb = false) (a : VE p X W ea ga) (b : VE q X W eb gb) :
    VD (p && q) X W (.Compare ea [op] [eb] pos) (gOpV q h ga gb) := by
  obtain ⟨ta, a1, a2⟩ := a
  obtain ⟨tb, b1, b2⟩ := b
  exact ⟨_, pe_cmpR ho a1 b1 hm, fun σ0 σ G H S F Q r hw => opV_two hr a2 b2 r hw⟩
theorem vt_cmpV {op : CmpOp} {r2 : R2} {h : D → D → Option D} {ga gb : Sl → R Vl} (ho : OpR X (compareOp op) r2) (hr : OpV r2 h) (hm : behindInMarks op eb = false) (a : VE p X W ea ga) (b : VE q X W eb gb) :
    VT (p && q) X W (.Compare ea [op] [eb] pos) (gBool (gOpV q h ga gb)) := by
  obtain ⟨ta, a1, a2⟩ := a
  obtain ⟨tb, b1, b2⟩ := b
  refine ⟨_, pt_cmpR ho a1 b1 hm, fun σ0 σ G H S F Q r hw => opV_two (Q := fun x H' => ∃ k, x = .bl k ∧ Q k H') hr a2 b2 r ?_⟩
  refine R.wp_mono (R.wp_bind hw) (fun d S' hd v G' H' F' r' g' z => ?_) fun _ _ _ h => h
  cases d <;> first | exact hd.elim | skip
  exact ⟨_, z, hd G' H' F' r' g'⟩

/-! ### == and in of data -/
def rEqP (K : PySem.W.Frag) (neg : Bool) : R2 := fun x y H Q => ∃ d e, Dp K H x d ∧ Dp K H y e ∧ d.plain = true ∧ e.plain = true ∧ min d.depth e.depth ≤ 60 ∧ Q (.bl (if neg then !PyData.eqv d e else PyData.eqv d e)) H
theorem op_eqP (hu : X.A.units + 64 < cLine) : OpR X (compareOp .Eq) (rEqP X.K false) := by
  intro pins s σ H x y v u Q I rx ry h
  obtain ⟨d, e, hd, he, pd, pe, hl, q⟩ := h
  obtain ⟨as, r1⟩ := Dp.reads I d x v hd rx
  obtain ⟨bs, r2⟩ := Dp.reads I e y u he ry
  exact SeqAt.eq_plain r1 r2 pd pe (by omega) ⟨.bl _, H, I, rfl, q⟩
theorem op_neP (hu : X.A.units + 64 < cLine) : OpR X (compareOp .NotEq) (rEqP X.K true) := by
  intro pins s σ H x y v u Q I rx ry h
  obtain ⟨d, e, hd, he, pd, pe, hl, q⟩ := h
  obtain ⟨as, r1⟩ := Dp.reads I d x v hd rx
  obtain ⟨bs, r2⟩ := Dp.reads I e y u he ry
  exact SeqAt.ne_plain r1 r2 pd pe (by omega) ⟨.bl _, H, I, rfl, q⟩
def dEqB (x y : D) : Bool := PyData.eqv x.py y.py
def okEq (x y : D) : Bool := x.plain && y.plain && decide (min x.py.depth y.py.depth ≤ 60)
def dEq (neg : Bool) : D → D → Option D := fun x y => if okEq x y then some (.bl (if neg then !dEqB x y else dEqB x y)) else none
theorem opv_eq {neg : Bool} {K : PySem.W.Frag} : OpV (rEqP K neg) (dEq neg) := by
  intro x y d hd G H v u Q zx zy m k
  unfold dEq at hd
  split at hd
  · rename_i hc
    unfold okEq at hc
    simp only [Bool.and_eq_true, decide_eq_true_eq] at hc
    cases hd
    exact ⟨x.py, y.py, zx.dp m hc.1.1, zy.dp m hc.1.2, D.py_plain _ hc.1.1, D.py_plain _ hc.1.2, hc.2, k _ rfl⟩
  · cases hd
def rInP (K : PySem.W.Frag) (neg : Bool) : R2 := fun x y H Q => ∃ d e xs, Dp K H x d ∧ Dp K H y e ∧ (e = .list xs ∨ e = .tuple xs) ∧ d.plain = true ∧ PyData.plainAll xs = true ∧ min (PyData.depthAll xs) d.depth ≤ 60 ∧ Q (.bl (if neg then !xs.any fun y => PyData.eqv y d else xs.any fun y => PyData.eqv y d)) H
theorem op_inP (hu : X.A.units + 64 < cLine) : OpR X (compareOp .In) (rInP X.K false) := by
  intro pins s σ H x y v u Q I rx ry h
  obtain ⟨d, e, xs, hd, he, hx, pd, pe, hl, q⟩ := h
  obtain ⟨as, r1⟩ := Dp.reads I d x v hd rx
  obtain ⟨bs, r2⟩ := Dp.reads I e y u he ry
  rcases hx with rfl | rfl
  · exact SeqAt.in_list_data r2 r1 pe pd (by omega) ⟨.bl _, H, I, rfl, q⟩
  · exact SeqAt.in_tuple_data r2 r1 pe pd (by omega) ⟨.bl _, H, I, rfl, q⟩
theorem op_notInP (hu : X.A.units + 64 < cLine) : OpR X (compareOp .NotIn) (rInP X.K true) := by
  intro pins s σ H x y v u Q I rx ry h
  obtain ⟨d, e, xs, hd, he, hx, pd, pe, hl, q⟩ := h
  obtain ⟨as, r1⟩ := Dp.reads I d x v hd rx
  obtain ⟨bs, r2⟩ := Dp.reads I e y u he ry
  rcases hx with rfl | rfl
  · exact SeqAt.notIn_list_data r2 r1 pe pd (by omega) ⟨.bl _, H, I, rfl, q⟩
  · exact SeqAt.notIn_tuple_data r2 r1 pe pd (by omega) ⟨.bl _, H, I, rfl, q⟩
def D.items : D → Option (List D)
  | .lst xs => some xs
  | .tup xs => some xs
  | _ => none
def dInB (x : D) (ys : List D) : Bool := (D.pyL ys).any fun y => PyData.eqv y x.py
def okIn (x : D) (ys : List D) : Bool := x.plain && D.plainL ys && decide (min (PyData.depthAll (D.pyL ys)) x.py.depth ≤ 60)
def dIn (neg : Bool) : D → D → Option D := fun x y => match y.items with
  | some ys => if okIn x ys then some (.bl (if neg then !dInB x ys else dInB x ys)) else none
  | none => none
theorem opv_in {neg : Bool} {K : PySem.W.Frag} : OpV (rInP K neg) (dIn neg) := by
  intro x y d hd G H v u Q zx zy m k
  unfold dIn at hd
  cases hi : y.items with
  | none => rw [hi] at hd; cases hd
  | some ys =>
    rw [hi] at hd
    simp only at hd
    split at hd
    · rename_i hc
      unfold okIn at hc
      simp only [Bool.and_eq_true, decide_eq_true_eq] at hc
      cases hd
      have hy : y.plain = true ∧ (y.py = .list (D.pyL ys) ∨ y.py = .tuple (D.pyL ys)) := by
        cases y <;> simp only [D.items] at hi <;> cases hi
        · exact ⟨hc.1.2, .inl rfl⟩
        · exact ⟨hc.1.2, .inr rfl⟩
      exact ⟨x.py, y.py, D.pyL ys, zx.dp m hc.1.1, zy.dp m hy.1, hy.2, D.py_plain _ hc.1.1, D.pyL_plain _ hc.1.2, hc.2, k _ rfl⟩
    · cases hd

/-! ### is None, is not None -/
def D.isNon : D → Bool
  | .non => true
  | _ => false
def dIsN (neg : Bool) : D → D → Option D := fun x y => match y with
  | .non => some (.bl (cond neg (!x.isNon) x.isNon))
  | _ => none
theorem rv_non {d : D} {v : V} (h : Rv G H d v) : (decide (v = .non)) = d.isNon := by
  obtain ⟨k, fp, z⟩ := h
  cases k with
  | zero =>
    obtain ⟨z, _⟩ := z
    cases d <;> simp only [Fz] at z <;> first | (subst z; rfl) | (obtain ⟨a, vs, rfl, _⟩ := z; rfl) | (obtain ⟨a, dx, vs, rfl, _⟩ := z; rfl) | (obtain ⟨rfl, _⟩ := z; rfl)
  | succ k =>
    cases d <;> first
      | (obtain ⟨z, _⟩ := z; simp only [Fz] at z; subst z; rfl)
      | (obtain ⟨a, vs, f, rfl, _⟩ := z; rfl)
      | (obtain ⟨z, _⟩ := z; simp only [Fz] at z; obtain ⟨a, vs, rfl, _⟩ := z; rfl)
      | (obtain ⟨a, dx, vs, f, rfl, _⟩ := z; rfl)
      | (obtain ⟨z, _⟩ := z; simp only [Fz] at z; obtain ⟨rfl, _⟩ := z; rfl)
theorem opv_isN : OpV (fun x y H Q => y = .non ∧ Q (.bl (decide (x = .non))) H) (dIsN false) := by
  intro x y d hd G H v u Q zx zy m k
  cases y <;> simp only [dIsN] at hd <;> cases hd
  refine ⟨zy.non, ?_⟩
  rw [rv_non zx]
  exact k _ rfl
theorem opv_notN : OpV (fun x y H Q => y = .non ∧ Q (.bl (!decide (x = .non))) H) (dIsN true) := by
  intro x y d hd G H v u Q zx zy m k
  cases y <;> simp only [dIsN] at hd <;> cases hd
  refine ⟨zy.non, ?_⟩
  rw [rv_non zx]
  exact k _ rfl

/-! ### len, abs, int, max, min of two, gcd, sum, any, all -/
def dLen : D → Option D
  | .lst xs => some (.int xs.length)
  | .tup xs => some (.int xs.length)
  | .str x => if x.length ≤ 16777216 then some (.int x.length) else none
  | _ => none
theorem cv_len : CallV (fun xs H Q => ∃ x n, xs = [x] ∧ LenV X.K x H n ∧ Q (.int n) H) dLen := by
  intro x d hd G H v Q z m k
  cases x <;> simp only [dLen] at hd <;> first | (cases hd; done) | skip
  · rename_i y
    split at hd
    · cases hd
      refine ⟨v, y.length, rfl, ?_, k _ rfl⟩
      rw [z.str]
      exact ⟨by rw [sizeLine_eq]; assumption, rfl⟩
    · cases hd
  · rename_i ds
    cases hd
    obtain ⟨a, vs, rfl, r, l, _⟩ := z.lst m
    exact ⟨_, ds.length, rfl, .inl ⟨vs, .of r, l.symm⟩, k _ rfl⟩
  · rename_i ds
    cases hd
    obtain ⟨a, vs, rfl, r, q⟩ := z.tup m
    exact ⟨_, ds.length, rfl, .inr ⟨vs, .of r, q.length.symm⟩, k _ rfl⟩
def dAbs : List D → Option D
  | [.int i] => some (.int (if i < 0 then -i else i))
  | _ => none
theorem fzL1 {d : D} {vs : List V} (h : FzL G [d] vs) : ∃ v, vs = [v] ∧ Fz G d v := by
  simp only [FzL] at h
  obtain ⟨v, r, rfl, h1, rfl⟩ := h
  exact ⟨v, rfl, h1⟩
theorem fzL2 {d d' : D} {vs : List V} (h : FzL G [d, d'] vs) : ∃ v u, vs = [v, u] ∧ Fz G d v ∧ Fz G d' u := by
  simp only [FzL] at h
  obtain ⟨v, r, rfl, h1, u, r', rfl, h2, rfl⟩ := h
  exact ⟨v, u, rfl, h1, h2⟩
theorem cd_abs : CallD (fun xs H Q => ∃ i, xs = [.int i] ∧ Q (.int (if i < 0 then -i else i)) H) dAbs := by
  intro ds d hd G H vs Q z m k
  match ds, hd with
  | [.int i], hd =>
    cases hd
    obtain ⟨v, rfl, h⟩ := fzL1 z
    exact ⟨i, by simpa [Fz] using h, k _ rfl⟩
def dInt : List D → Option D
  | [.int i] => some (.int i)
  | [.bl b] => some (.int (if b then 1 else 0))
  | _ => none
theorem cd_int : CallD (fun xs H Q => (∃ i, xs = [.int i] ∧ Q (.int i) H) ∨ ∃ k, xs = [.bl k] ∧ Q (.int (if k then 1 else 0)) H) dInt := by
  intro ds d hd G H vs Q z m k
  match ds, hd with
  | [.int i], hd =>
    cases hd
    obtain ⟨v, rfl, h⟩ := fzL1 z
    exact .inl ⟨i, by simpa [Fz] using h, k _ rfl⟩
  | [.bl b], hd =>
    cases hd
    obtain ⟨v, rfl, h⟩ := fzL1 z
    exact .inr ⟨b, by simpa [Fz] using h, k _ rfl⟩
def dMax2 : List D → Option D
  | [.int i, .int j] => some (.int (if j > i then j else i))
  | _ => none
theorem cd_max2 : CallD (fun xs H Q => ∃ i j, xs = [.int i, .int j] ∧ Q (.int (if j > i then j else i)) H) dMax2 := by
  intro ds d hd G H vs Q z m k
  match ds, hd with
  | [.int i, .int j], hd =>
    cases hd
    obtain ⟨v, u, rfl, h, h'⟩ := fzL2 z
    simp only [Fz] at h h'
    exact ⟨i, j, by rw [h, h'], k _ rfl⟩
def dMin2 : List D → Option D
  | [.int i, .int j] => some (.int (if j < i then j else i))
  | _ => none
theorem cd_min2 : CallD (fun xs H Q => ∃ i j, xs = [.int i, .int j] ∧ Q (.int (if j < i then j else i)) H) dMin2 := by
  intro ds d hd G H vs Q z m k
  match ds, hd with
  | [.int i, .int j], hd =>
    cases hd
    obtain ⟨v, u, rfl, h, h'⟩ := fzL2 z
    simp only [Fz] at h h'
    exact ⟨i, j, by rw [h, h'], k _ rfl⟩
def dGcd : List D → Option D
  | [.int i, .int j] => some (.int ((Nat.gcd i.natAbs j.natAbs : Nat) : Int))
  | _ => none
theorem cd_gcd : CallD rGcd dGcd := by
  intro ds d hd G H vs Q z m k
  match ds, hd with
  | [.int i, .int j], hd =>
    cases hd
    obtain ⟨v, u, rfl, h, h'⟩ := fzL2 z
    simp only [Fz] at h h'
    exact ⟨i, j, by rw [h, h'], k _ rfl⟩
/-- what a reader finds in a list of ints, owned or not -/
theorem Rv.ints {ns : List Int} {v : V} (h : Rv G H (.lst (ns.map D.int)) v) (m : Inc G H) : ∃ a, v = .ref a ∧ H a = some (.lst (ns.map V.int)) := by
  obtain ⟨a, vs, e, r, l, g⟩ := h.lst m
  have : vs = ns.map V.int := by
    apply List.ext_getElem? 
    intro i
    by_cases hi : i < ns.length
    · obtain ⟨u, e1, e2⟩ := g i (.int ns[i]) (by simp [hi])
      rw [e1, e2.int]
      simp [hi]
    · rw [List.getElem?_eq_none (by rw [l, List.length_map]; omega), List.getElem?_eq_none (by rw [List.length_map]; omega)]
  subst this
  exact ⟨a, e, r⟩
def dSum : D → Option D
  | .lst ds => (D.ints ds).map fun ns => .int ns.sum
  | _ => none
theorem cv_sum : CallV (rSum X.K) dSum := by
  intro x d hd G H v Q z m k
  cases x <;> simp only [dSum] at hd <;> first | (cases hd; done) | skip
  rename_i ds
  simp only [Option.map_eq_some_iff] at hd
  obtain ⟨ns, h1, rfl⟩ := hd
  rw [D.ints_map h1] at z
  obtain ⟨a, rfl, r⟩ := z.ints m
  exact ⟨a, ns, rfl, .of r, k _ rfl⟩
end
end VL

set_option Elab.async false
set_option linter.all false
set_option autoImplicit false
set_option maxRecDepth 100000
namespace VL
open PySem PySem.Spec L2
open PyProof.Rows hiding St

section
variable {X : Cx} {W : WX} {p q : Bool} {e ea eb : Expr} {es : List Expr} {pos : Pos}
variable {σ0 σ : St} {G H G1 H1 G2 H2 : Hp} {F F1 F2 : Fps} {S S1 S2 : Sl}

/-! ### x[i] -/
def elemV (x : Vl) (d : D) : Vl := if x.k ≤ 1 || d.atom then .fzn d else ⟨true, x.k - 1, d⟩
def ixV (x : Vl) (i : D) : Option Vl := match x.d, i with
  | .lst ds, .int j => (atI ds j).map (elemV x)
  | .tup ds, .int j => (atI ds j).map .fzn
  | .str z, .int j => if z.length ≤ 16777216 then (atI z.cps.toList j).map fun c => .fzn (.str ⟨#[c]⟩) else none
  | _, _ => none
def gIx (q : Bool) (ga : Sl → R Vl) (gb : Sl → R D) : Sl → R Vl := fun S => (ga S).bind fun x S1 => (gb S1).bind fun i S2 => if x.b && !q then .stuck else match ixV x i with | some y => .ok y S2 | none => .stuck
theorem bor_or {b q : Bool} (h : ¬ (b && !q) = true) : b = false ∨ q = true := by
  cases b with
  | false => exact .inl rfl
  | true => cases q with
    | true => exact .inr rfl
    | false => exact absurd rfl h
theorem atI_spec {α : Type} {xs : List α} {i : Int} {v : α} (h : atI xs i = some v) : ∃ j, ixN xs.length i = some j ∧ xs[j]? = some v := by
  unfold atI at h
  cases e : ixN xs.length i with
  | none => rw [e] at h; cases h
  | some j => rw [e] at h; exact ⟨j, rfl, h⟩
theorem atI_of {α β : Type} {xs : List α} {ys : List β} {i : Int} {j : Nat} {u : β} (hl : ys.length = xs.length) (h : ixN xs.length i = some j) (e : ys[j]? = some u) : atI ys i = some u := by
  unfold atI; rw [hl, h]; exact e
theorem ve_ix {ga : Sl → R Vl} {gb : Sl → R D} (a : VE p X W ea ga) (b : VD q X W eb gb) (hs : PlainIx eb := by intro _ _; rfl) : VE (p && q) X W (.Subscript ea eb pos) (gIx q ga gb) := by
  obtain ⟨ta, a1, a2⟩ := a
  obtain ⟨tb, b1, b2⟩ := b
  refine ⟨_, pe_ix ix_seq a1 b1 hs, fun σ0 σ G H S F Q r hw => ?_⟩
  refine VE.then (t := ta) a2 r hw fun x S1 v fp G1 H1 F1 r1 g1 z1 hw1 => ?_
  refine VD.then (t := tb) b2 r1 hw1 fun i S2 u G2 H2 F2 r2 g2 z2 hw2 => ?_
  split at hw2
  · exact hw2.elim
  · rename_i hx
    have z := z1.carry g2 (bor_or hx)
    have g := g1.trans g2
    obtain ⟨xb, xk, xd⟩ := x
    cases hd : ixV ⟨xb, xk, xd⟩ i with
    | none => rw [hd] at hw2; exact hw2.elim
    | some y =>
      rw [hd] at hw2
      unfold ixV at hd
      cases xd <;> cases i <;> first | (simp only at hd; cases hd; done) | skip
      all_goals (simp only [Fz] at z2; subst z2)
      · rename_i s j
        simp only at hd
        split at hd
        · rename_i hs'
          simp only [Option.map_eq_some_iff] at hd
          obtain ⟨c, h1, rfl⟩ := hd
          exact .inr (.inr ⟨s, j, c, z.rv.str, rfl, by rw [sizeLine_eq]; exact hs', h1, hw2 _ [] G2 H2 F2 r2 g (.fzn rfl)⟩)
        · cases hd
      · rename_i ds j
        simp only [Option.map_eq_some_iff] at hd
        obtain ⟨d, h1, rfl⟩ := hd
        obtain ⟨j', h2, h3⟩ := atI_spec h1
        by_cases hk : xk ≤ 1
        · obtain ⟨a, vs, e, rd, fz⟩ := Rv1.lst (G := G2) (H := H2) ⟨xk, fp, hk, z.ow⟩ r2.inc
          obtain ⟨w, e1, e2⟩ := fz.get h3
          have : elemV ⟨xb, xk, .lst ds⟩ d = .fzn d := by simp [elemV, hk]
          rw [this] at hw2
          exact .inl ⟨a, vs, j, w, e, rfl, .of rd, atI_of fz.length h2 e1, hw2 w [] G2 H2 F2 r2 g (.fzn e2)⟩
        · obtain ⟨k, rfl⟩ : ∃ k, xk = k + 2 := ⟨xk - 2, by omega⟩
          obtain ⟨a, vs, f, e, hh, _, ol⟩ := z.ow
          obtain ⟨w, f', e1, e2, _⟩ := ol.get h3
          refine .inl ⟨a, vs, j, w, e, rfl, .of hh, atI_of ol.length h2 e1, ?_⟩
          by_cases ha : d.atom = true
          · have : elemV ⟨xb, k + 2, .lst ds⟩ d = .fzn d := by simp [elemV, ha]
            rw [this] at hw2
            exact hw2 w [] G2 H2 F2 r2 g (.fzn (e2.atom ha).1)
          · have : elemV ⟨xb, k + 2, .lst ds⟩ d = ⟨true, k + 1, d⟩ := by simp [elemV, ha]
            rw [this] at hw2
            exact hw2 w f' G2 H2 F2 r2 g ⟨e2, (fun h => nomatch h), (fun h => nomatch h), (fun h => nomatch h), (fun h => nomatch h)⟩
      · rename_i ds j
        simp only [Option.map_eq_some_iff] at hd
        obtain ⟨d, h1, rfl⟩ := hd
        obtain ⟨j', h2, h3⟩ := atI_spec h1
        obtain ⟨a, vs, e, rd, fz⟩ := z.rv.tup r2.inc
        obtain ⟨w, e1, e2⟩ := fz.get h3
        exact .inr (.inl ⟨a, vs, j, w, e, rfl, .of rd, atI_of fz.length h2 e1, hw2 w [] G2 H2 F2 r2 g (.fzn e2)⟩)

/-! ### x[lo:hi] -/
def gPart (o : Option (Sl → R D)) : Sl → R (Option Int) := fun S => match o with
  | none => .ok none S
  | some g => (g S).bind fun d S1 => match d with | .int i => .ok (some i) S1 | _ => .stuck
def VO (p : Bool) (X : Cx) (W : WX) (e : Option Expr) (o : Option (Sl → R D)) : Prop := match e, o with
  | none, none => True
  | some e, some g => VD p X W e g
  | _, _ => False
def cutD {α : Type} (xs : List α) (lo hi : Option Int) : List α := (xs.drop (HT.sIx xs.length 0 lo)).take (HT.sIx xs.length xs.length hi - HT.sIx xs.length 0 lo)
theorem FzL.drop : ∀ {n : Nat} {ds : List D} {vs : List V}, FzL G ds vs → FzL G (ds.drop n) (vs.drop n)
  | 0, ds, vs, h => h
  | n + 1, [], vs, h => by simp only [FzL] at h; subst h; exact .nil
  | n + 1, d :: ds, vs, h => by
    simp only [FzL] at h
    obtain ⟨v, r, rfl, _, h2⟩ := h
    exact FzL.drop (n := n) h2
theorem FzL.take : ∀ {n : Nat} {ds : List D} {vs : List V}, FzL G ds vs → FzL G (ds.take n) (vs.take n)
  | 0, ds, vs, h => .nil
  | n + 1, [], vs, h => by simp only [FzL] at h; subst h; exact .nil
  | n + 1, d :: ds, vs, h => by
    simp only [FzL] at h
    obtain ⟨v, r, rfl, h1, h2⟩ := h
    exact .cons h1 (FzL.take (n := n) h2)
theorem FzL.cut {ds : List D} {vs : List V} {lo hi : Option Int} (h : FzL G ds vs) : FzL G (cutD ds lo hi) (cutV vs lo hi) := by
  unfold cutD cutV
  rw [h.length]
  exact h.drop.take
theorem cutD_whole {α : Type} {xs : List α} {lo hi : Option Int} (h : HT.sIx xs.length 0 lo = 0 ∧ HT.sIx xs.length xs.length hi = xs.length) : cutD xs lo hi = xs := by
  unfold cutD
  rw [h.1, h.2]
  simp
def slV (x : Vl) (lo hi : Option Int) : Option Vl := match x.d with
  | .lst ds => if x.lev then some ⟨false, 1, .lst (cutD ds lo hi)⟩ else none
  | .tup ds => some (.fzn (.tup (cutD ds lo hi)))
  | _ => none
def gSl (q : Bool) (ga : Sl → R Vl) (lo hi : Option (Sl → R D)) : Sl → R Vl := fun S => (ga S).bind fun x S1 => (gPart lo S1).bind fun l S2 => (gPart hi S2).bind fun h S3 => if x.b && !q then .stuck else match slV x l h with | some y => .ok y S3 | none => .stuck
theorem vo_ok {o : Option Expr} {g : Option (Sl → R D)} (h : VO p X W o g) : ∃ t, PO X o t ∧ ∀ σ0 σ G H S F (Q : Option Int → Hp → Prop), SR σ0 G H σ S F →
    (gPart g S).wp (fun i S' => ∀ G' H' F', SR σ0 G' H' σ S' F' → Gr p G H F S G' H' F' S' → Q i H') (OkE σ0 σ G H S F W) → t σ H Q := by
  cases o with
  | none =>
    cases g with
    | none => exact ⟨_, po_none, fun σ0 σ G H S F Q r hw => hw G H F r (.refl r)⟩
    | some g => exact h.elim
  | some e =>
    cases g with
    | none => exact h.elim
    | some g =>
      obtain ⟨t, h1, h2⟩ := h
      refine ⟨_, po_some h1, fun σ0 σ G H S F Q r hw => ?_⟩
      refine h2 σ0 σ G H S F _ r (R.wp_mono (R.wp_bind hw) (fun d S' hd v G' H' F' r' g' z => ?_) fun _ _ _ h => h)
      cases d <;> first | exact hd.elim | skip
      exact ⟨_, z, hd G' H' F' r' g'⟩
theorem po_then {g : Option (Sl → R D)} {t : TO} {β : Type} {f : Option Int → Sl → R β} {ok : β → Sl → Prop} {Q : Option Int → Hp → Prop}
    (h2 : ∀ σ0 σ G H S F (Q : Option Int → Hp → Prop), SR σ0 G H σ S F → (gPart g S).wp (fun i S' => ∀ G' H' F', SR σ0 G' H' σ S' F' → Gr p G H F S G' H' F' S' → Q i H') (OkE σ0 σ G H S F W) → t σ H Q)
    (r : SR σ0 G H σ S F) (hw : ((gPart g S).bind f).wp ok (OkE σ0 σ G H S F W))
    (k : ∀ i S' G' H' F', SR σ0 G' H' σ S' F' → Gr p G H F S G' H' F' S' → (f i S').wp ok (OkE σ0 σ G' H' S' F' W) → Q i H') : t σ H Q :=
  h2 σ0 σ G H S F Q r (R.wp_mono (R.wp_bind hw) (fun d S' hx G' H' F' r' g' => k d S' G' H' F' r' g' (R.wp_mono hx (fun _ _ h => h) fun c w S' h => h.from g')) fun c w S' h => h)
theorem ve_sl {lo hi : Option Expr} {gl gh : Option (Sl → R D)} {ga : Sl → R Vl} {p2 : Pos} (a : VE p X W ea ga) (l : VO q X W lo gl) (h : VO q X W hi gh) : VE (p && q) X W (.Subscript ea (.Slice lo hi none p2) pos) (gSl q ga gl gh) := by
  obtain ⟨ta, a1, a2⟩ := a
  obtain ⟨tl, l1, l2⟩ := vo_ok l
  obtain ⟨th, h1, h2⟩ := vo_ok h
  refine ⟨_, pe_slice (sl_list.or sl_tupA) a1 l1 h1, fun σ0 σ G H S F Q r hw => ?_⟩
  refine VE.then (t := ta) a2 r hw fun x S1 v fp G1 H1 F1 r1 g1 z1 hw1 => ?_
  refine po_then (t := tl) l2 r1 hw1 fun i S2 G2 H2 F2 r2 g2 hw2 => ?_
  refine po_then (t := th) h2 r2 hw2 fun j S3 G3 H3 F3 r3 g3 hw3 => ?_
  split at hw3
  · exact hw3.elim
  · rename_i hx
    have g23 : Gr q G1 H1 F1 S1 G3 H3 F3 S3 := (g2.trans g3).weak fun h => by simp [h]
    have z := z1.carry g23 (bor_or hx)
    have g : Gr (p && q) G H F S G3 H3 F3 S3 := g1.trans g23
    obtain ⟨xb, xk, xd⟩ := x
    cases hd : slV ⟨xb, xk, xd⟩ i j with
    | none => rw [hd] at hw3; exact hw3.elim
    | some y =>
      rw [hd] at hw3
      unfold slV at hd
      cases xd <;> first | (simp only at hd; cases hd; done) | skip
      · rename_i ds
        simp only at hd
        split at hd
        · rename_i hl
          cases hd
          obtain ⟨b, vs, e, rd, fz⟩ := (z.rv1 hl).lst r3.inc
          exact .inl ⟨b, vs, e, .of rd, fun c hc => new_lst (S' := S3) r3 g fz.cut hw3 c hc⟩
        · cases hd
      · rename_i ds
        cases hd
        obtain ⟨b, vs, e, rd, fz⟩ := z.rv.tup r3.inc
        refine .inr ⟨b, vs, e, .of rd, fun hz => ?_, fun _ c hc => ?_⟩
        · have hz' : HT.sIx ds.length 0 i = 0 ∧ HT.sIx ds.length ds.length j = ds.length := by rw [fz.length] at hz; exact hz
          rw [cutD_whole hz'] at hw3
          have zz := (z.ow.atom rfl).1
          rw [e] at zz
          exact hw3 _ [] G3 H3 F3 r3 g (.fzn zz)
        · exact new_tup (S' := S3) r3 g fz.cut (fun v' G' H' F' r' g' z' => hw3 v' [] G' H' F' r' g' (.fzn z')) c hc
end
end VL

set_option Elab.async false
set_option linter.all false
set_option autoImplicit false
set_option maxRecDepth 100000
namespace VL
open PySem PySem.Spec L2
open PyProof.Rows hiding St

section
variable {X : Cx} {W : WX} {p q : Bool} {e ea eb : Expr} {es : List Expr} {pos : Pos}
variable {σ0 σ : St} {G H G1 H1 G2 H2 : Hp} {F F1 F2 : Fps} {S S1 S2 : Sl}

/-! ### xs + ys: lists; tuples -/
def gNew2 (q : Bool) (h : D → D → Option (List D)) (ga gb : Sl → R Vl) : Sl → R Vl := fun S => (ga S).bind fun x S1 => (gb S1).bind fun y S2 =>
  if x.b && !q then .stuck else if x.lev && y.lev then (match h x.d y.d with | some ds => .ok ⟨false, 1, .lst ds⟩ S2 | none => .stuck) else .stuck
def OpN (r : R2) (h : D → D → Option (List D)) : Prop := ∀ x y ds, h x y = some ds → ∀ G H v u Q, Rv1 G H x v → Rv1 G H y u → Inc G H → (∀ vs a, FzL G ds vs → H a = none → Q (.ref a) (upd H a (.lst vs))) → r v u H Q
theorem ve_op2 {op : Operator} {r2 : R2} {h : D → D → Option (List D)} {ga gb : Sl → R Vl} (ho : OpR X (binaryOp op) r2) (hr : OpN r2 h) (a : VE p X W ea ga) (b : VE q X W eb gb) : VE (p && q) X W (.BinOp ea op eb pos) (gNew2 q h ga gb) := by
  obtain ⟨ta, a1, a2⟩ := a
  obtain ⟨tb, b1, b2⟩ := b
  refine ⟨_, pe_op ho a1 b1, fun σ0 σ G H S F Q r hw => ?_⟩
  refine VE.then (t := ta) a2 r hw fun x S1 v fp G1 H1 F1 r1 g1 z1 hw1 => ?_
  refine VE.then (t := tb) b2 r1 hw1 fun y S2 u fq G2 H2 F2 r2 g2 z2 hw2 => ?_
  split at hw2
  · exact hw2.elim
  · rename_i hx
    split at hw2
    · rename_i hl
      obtain ⟨hl1, hl2⟩ := Bool.and_eq_true_iff.mp hl
      cases hd : h x.d y.d with
      | none => rw [hd] at hw2; exact hw2.elim
      | some ds =>
        rw [hd] at hw2
        exact hr x.d y.d ds hd G2 H2 v u _ ((z1.carry g2 (bor_or hx)).rv1 hl1) (z2.rv1 hl2) r2.inc fun vs a z ha => new_lst (S' := S2) r2 (g1.trans g2) z hw2 a ha
    · exact hw2.elim
def dCat : D → D → Option (List D)
  | .lst xs, .lst ys => if lineOk (xs ++ ys) then some (xs ++ ys) else none
  | _, _ => none
theorem opn_cat : OpN rCat dCat := by
  intro x y ds hd G H v u Q zx zy m k
  cases x <;> cases y <;> simp only [dCat] at hd <;> first | (cases hd; done) | skip
  rename_i xs ys
  split at hd
  · rename_i hl
    cases hd
    obtain ⟨a, vs, rfl, ha, fa⟩ := zx.lst m
    obtain ⟨b, us, rfl, hb, fb⟩ := zy.lst m
    refine ⟨a, b, vs, us, rfl, rfl, ha, hb, ?_, fun p hp => k _ p (fa.append fb) hp⟩
    have := lineOk.le hl
    rw [List.length_append] at this
    rw [fa.length, fb.length]; exact this
  · cases hd
def dRep : D → D → Option (List D)
  | .lst xs, .int k => if decide (-(2 ^ 63) ≤ k ∧ k < 2 ^ 63 ∧ xs.length * k.toNat ≤ 16777216) then some (List.replicate k.toNat xs).flatten else none
  | _, _ => none
theorem FzL.rep {ds : List D} {vs : List V} (h : FzL G ds vs) : ∀ k : Nat, FzL G (List.replicate k ds).flatten (List.replicate k vs).flatten
  | 0 => .nil
  | k + 1 => by
    rw [List.replicate_succ, List.replicate_succ, List.flatten_cons, List.flatten_cons]
    exact h.append (FzL.rep h k)
theorem opn_rep : OpN rRep dRep := by
  intro x y ds hd G H v u Q zx zy m k
  cases x <;> cases y <;> simp only [dRep] at hd <;> first | (cases hd; done) | skip
  rename_i xs j
  split at hd
  · rename_i hl
    obtain ⟨h1, h2, h3⟩ := of_decide_eq_true hl
    cases hd
    obtain ⟨a, vs, rfl, ha, fa⟩ := zx.lst m
    exact ⟨a, j, vs, rfl, zy.rv.int, ha, h1, h2, by rw [fa.length, sizeLine_eq]; exact h3, fun p hp => k _ p (fa.rep _) hp⟩
  · cases hd
/-- t + u -/
def gCatT (ga gb : Sl → R D) : Sl → R D := fun S => (ga S).bind fun x S1 => (gb S1).bind fun y S2 => match x, y with
  | .tup xs, .tup ys => if lineOk (xs ++ ys) then .ok (.tup (xs ++ ys)) S2 else .stuck
  | _, _ => .stuck
theorem vd_catT {ga gb : Sl → R D} (a : VD p X W ea ga) (b : VD q X W eb gb) : VD (p && q) X W (.BinOp ea .Add eb pos) (gCatT ga gb) := by
  obtain ⟨ta, a1, a2⟩ := a
  obtain ⟨tb, b1, b2⟩ := b
  refine ⟨_, pe_op op_catA a1 b1, fun σ0 σ G H S F Q r hw => ?_⟩
  refine VD.then (t := ta) a2 r hw fun x S1 v G1 H1 F1 r1 g1 z1 hw1 => ?_
  refine VD.then (t := tb) b2 r1 hw1 fun y S2 u G2 H2 F2 r2 g2 z2 hw2 => ?_
  have z1' := z1.inc g2.up
  cases x <;> cases y <;> first | exact hw2.elim | skip
  rename_i xs ys
  simp only at hw2
  split at hw2
  · rename_i hl
    have zx := z1'
    have zy := z2
    simp only [Fz] at zx zy
    obtain ⟨a, vs, rfl, ha, fa⟩ := zx
    obtain ⟨b, us, rfl, hb, fb⟩ := zy
    have hl := lineOk.le hl
    rw [List.length_append] at hl
    refine ⟨a, b, vs, us, rfl, rfl, .of (r2.inc _ _ ha), .of (r2.inc _ _ hb), by rw [fa.length, fb.length]; exact hl, fun e => ?_, fun _ e => ?_, fun _ _ p hp => ?_⟩
    · have : xs = [] := List.length_eq_zero_iff.mp (by rw [← fa.length, e]; rfl)
      subst this
      exact hw2 _ G2 H2 F2 r2 (g1.trans g2) z2
    · have : ys = [] := List.length_eq_zero_iff.mp (by rw [← fb.length, e]; rfl)
      subst this
      rw [List.append_nil] at hw2
      exact hw2 _ G2 H2 F2 r2 (g1.trans g2) z1'
    · exact new_tup (S' := S2) r2 (g1.trans g2) (fa.append fb) hw2 p hp
  · exact hw2.elim
/-- s + t, texts -/
def dCatS : D → D → Option D
  | .str a, .str b => if a.length + b.length ≤ 16777216 then some (.str (a ++ b)) else none
  | _, _ => none
theorem opd_catS : OpD (fun x y H Q => ∃ i j, x = .str i ∧ y = .str j ∧ i.length + j.length ≤ sizeLine ∧ Q (.str (i ++ j)) H) dCatS := by
  intro x y d hd G H v u Q zx zy m k
  cases x <;> cases y <;> simp only [dCatS] at hd <;> first | (cases hd; done) | skip
  split at hd
  · cases hd
    simp only [Fz] at zx zy
    exact ⟨_, _, zx, zy, by rw [sizeLine_eq]; assumption, k _ rfl⟩
  · cases hd

/-! ### list(x), tuple(x), sorted(x) -/
def dList : D → Option (List D)
  | .lst xs => some xs
  | .tup xs => some xs
  | _ => none
theorem Rv1.tup {ds : List D} {v : V} (h : Rv1 G H (.tup ds) v) (m : Inc G H) : ∃ a vs, v = .ref a ∧ H a = some (.tup vs) ∧ FzL G ds vs := h.rv.tup m
theorem cn_list : CallN (fun xs H Q => ∃ p ys, xs = [.ref p] ∧ (SqL X.K H p ys ∨ SqT X.K H p ys) ∧ ∀ l, H l = none → Q (.ref l) (upd H l (.lst ys))) dList := by
  intro x ds hd G H v Q z m k
  cases x <;> simp only [dList] at hd <;> first | (cases hd; done) | skip
  · cases hd
    obtain ⟨a, vs, rfl, ha, fa⟩ := z.lst m
    exact ⟨a, vs, rfl, .inl (.of ha), fun l hl => k vs l fa hl⟩
  · cases hd
    obtain ⟨a, vs, rfl, ha, fa⟩ := z.tup m
    exact ⟨a, vs, rfl, .inr (.of ha), fun l hl => k vs l fa hl⟩
/-- tuple(x) -/
def gTupOf (g : Sl → R Vl) : Sl → R D := fun S => (g S).bind fun x S1 => match x.d with
  | .lst ds => if x.lev then .ok (.tup ds) S1 else .stuck
  | .tup ds => .ok (.tup ds) S1
  | _ => .stuck
theorem vd_tupOf {pn : Pos} {g : Sl → R Vl} (ha : VE p X W e g) (hg : Gl X "tuple" := by rfl) (hm : X.mg "tuple" = none)
    (he : starEach [e] X.env = (false, eval e X.env) :: starEach [] X.env := by rfl) (hpl : (backTo pos (starEach [] X.env)).any (·.1) = false := by rfl) : VD p X W (.Call (.Name "tuple" pn) [e] [] pos) (gTupOf g) := by
  obtain ⟨t, a1, a2⟩ := ha
  refine ⟨_, pe_callTy call_tuple_of hg hm (by decide +kernel) (pa_cons a1 pa_nil he) (by decide) (by decide) he hpl, fun σ0 σ G H S F Q r' hw => ?_⟩
  refine VE.then (t := t) a2 r' hw fun y S1 v fp G1 H1 F1 r1 g1 z1 hw1 => ?_
  obtain ⟨yb, yk, yd⟩ := y
  cases yd <;> first | exact hw1.elim | skip
  · rename_i ds
    simp only at hw1
    split at hw1
    · rename_i hl
      obtain ⟨a, vs, rfl, ha, fa⟩ := (z1.rv1 hl).lst r1.inc
      exact ⟨a, vs, rfl, .inl ⟨.of ha, fun l hl => new_tup (S' := S1) r1 g1 fa hw1 l hl⟩⟩
    · exact hw1.elim
  · rename_i ds
    have zz := (z1.ow.atom rfl).1
    obtain ⟨a, vs, rfl, ha, fa⟩ := z1.rv.tup r1.inc
    exact ⟨a, vs, rfl, .inr ⟨.of ha, hw1 _ G1 H1 F1 r1 g1 zz⟩⟩
/-- sorted(x): data that are alike, in one order -/
def rSortedD (K : PySem.W.Frag) : List V → Hp → VK → Prop := fun vs H Q => ∃ (a : Addr) (ps : List (V × D)), vs = [.ref a] ∧ H a = some (.lst (ps.map (·.1))) ∧ (∀ b ∈ ps, Dp K H b.1 b.2.py) ∧
  PySem.W.AllAlike (ps.map fun b => b.2.py) ∧ PySem.W.Sortable (ps.map fun b => b.2.py) ∧ (∀ b ∈ ps, b.2.py.depth ≤ 60) ∧
  ∀ c, H c = none → Q (.ref c) (upd H c (.lst ((ps.mergeSort (PySem.W.dataLe false fun b => b.2.py)).map (·.1))))
theorem each_of_vals {P : Value → V × D → Prop} : ∀ {ps : List (V × D)} {us : List Value}, Vals (ps.map (·.1)) us → (∀ b ∈ ps, ∀ u, RelV b.1 u → P u b) → PySem.W.EachIs P us ps
  | [], _, .nil, _ => .nil
  | b :: ps, _, .cons r t, h => .cons (h b (by simp) _ r) (each_of_vals t fun b hb => h b (List.mem_cons_of_mem _ hb))
theorem vals_of_each : ∀ {ps : List (V × D)} {us : List Value}, PySem.W.EachIs (fun u (b : V × D) => RelV b.1 u) us ps → Vals (ps.map (·.1)) us
  | [], _, .nil => .nil
  | b :: ps, _ :: _, .cons r t => .cons r (vals_of_each t)
theorem cr_sortedD (hu : X.A.units + 64 < cLine) : CallR X (.builtin "sorted") (rSortedD X.K) := by
  intro pins s σ H vs us Q I r h
  obtain ⟨a, ps, rfl, ha, hd, al, so, dp, q⟩ := h
  obtain ⟨its, rv, hl, hz⟩ := I.list (.of ha)
  rw [Vals.ref1 r]
  rw [List.length_map] at hz
  refine PySem.W.sorted_data (R := fun u b => RelV b.1 u) (enc := fun b : V × D => b.2.py) hl.isList (each_of_vals rv fun b _ u h => h) (each_of_vals rv fun b hb u h => Dp.reads I _ _ u (hd b hb) h) al so hz (fun b hb => by have := dp b hb; omega) fun out h1 h2 => ?_
  obtain ⟨ep, he'⟩ := PyProof.Rows.sortedAll_at s.heap its out.toArray
  have hlen : ((ps.mergeSort (PySem.W.dataLe false fun b => b.2.py)).map (·.1)).length ≤ sizeLine := by rw [List.length_map, (List.mergeSort_perm _ _).length_eq]; exact hz
  exact ⟨.ref _, upd H (s.heap.objs.size + 1) (.lst _), I.laid (t' := s.toks) (fun _ _ => PyProof.Rows.sortedAll_old) (Nat.le_succ _) ⟨hlen, out, ep, vals_of_each h2, by simpa using he'⟩, rfl, q _ (I.hok.fresh (Nat.le_succ _))⟩
end
end VL

set_option Elab.async false
set_option linter.all false
set_option autoImplicit false
set_option maxRecDepth 100000
namespace VL
open PySem PySem.Spec L2
open PyProof.Rows hiding St

section
variable {X : Cx} {W : WX} {p q : Bool} {e ea eb : Expr} {es : List Expr} {pos : Pos}
variable {σ0 σ : St} {G H G1 H1 G2 H2 : Hp} {F F1 F2 : Fps} {S S1 S2 : Sl}

/-! ### one transformer for all contexts -/
def tV (p : Bool) (W : WX) (g : Sl → R Vl) : TE := fun σ H Q => ∃ σ0 G S F, SR σ0 G H σ S F ∧ (g S).wp (OkV p σ0 σ G H S F Q) (OkE σ0 σ G H S F W)
def tVD (p : Bool) (W : WX) (g : Sl → R D) : TE := fun σ H Q => ∃ σ0 G S F, SR σ0 G H σ S F ∧ (g S).wp (OkD p σ0 σ G H S F Q) (OkE σ0 σ G H S F W)
def tVT (p : Bool) (W : WX) (g : Sl → R Bool) : TT := fun σ H Q => ∃ σ0 G S F, SR σ0 G H σ S F ∧ (g S).wp (OkB p σ0 σ G H S F Q) (OkE σ0 σ G H S F W)
theorem VE.can {g : Sl → R Vl} (h : VE p X W e g) : PE X e (tV p W g) := by
  obtain ⟨t, h1, h2⟩ := h
  exact ⟨fun pins s σ H Q I ⟨σ0, G, S, F, r, hw⟩ => h1.run pins s σ H Q I (h2 σ0 σ G H S F Q r hw)⟩
theorem VD.can {g : Sl → R D} (h : VD p X W e g) : PE X e (tVD p W g) := by
  obtain ⟨t, h1, h2⟩ := h
  exact ⟨fun pins s σ H Q I ⟨σ0, G, S, F, r, hw⟩ => h1.run pins s σ H Q I (h2 σ0 σ G H S F Q r hw)⟩
theorem VT.can {g : Sl → R Bool} (h : VT p X W e g) : PT X e (tVT p W g) := by
  obtain ⟨t, h1, h2⟩ := h
  exact ⟨fun pins s σ H Q I ⟨σ0, G, S, F, r, hw⟩ => h1.run pins s σ H Q I (h2 σ0 σ G H S F Q r hw)⟩
theorem VT.weak {g : Sl → R Bool} (h : VT p X W e g) (hq : q = true → p = true) : VT q X W e g := by
  obtain ⟨t, h1, h2⟩ := h
  exact ⟨t, h1, fun σ0 σ G H S F Q r hw => h2 σ0 σ G H S F Q r (R.wp_mono hw (fun x S' hx G' H' F' r' g' => hx G' H' F' r' (g'.weak hq)) fun c w S' h => h)⟩

/-! ### targets -/
/-- what an assignment has done to the slots vs -/
structure Asg (σ σ' : St) (F F' : Fps) (vs : List Nat) : Prop where
  len : σ'.length = σ.length
  σ : ∀ j, j ∉ vs → σ'[j]? = σ[j]?
  F : ∀ j, F' j = F j ∨ (j ∈ vs ∧ F' j = [])
theorem Asg.refl {vs : List Nat} : Asg σ σ F F vs := ⟨rfl, fun _ _ => rfl, fun _ => .inl rfl⟩
theorem Asg.trans {σ1 σ2 : St} {vs us : List Nat} (a : Asg σ σ1 F F1 vs) (b : Asg σ1 σ2 F1 F2 us) : Asg σ σ2 F F2 (vs ++ us) where
  len := b.len.trans a.len
  σ := fun j hj => by
    simp only [List.mem_append, not_or] at hj
    rw [b.σ j hj.2, a.σ j hj.1]
  F := fun j => by
    rcases b.F j with h | ⟨h1, h2⟩
    · rw [h]
      rcases a.F j with h | ⟨h1, h2⟩
      · exact .inl h
      · exact .inr ⟨List.mem_append_left _ h1, h2⟩
    · exact .inr ⟨List.mem_append_right _ h1, h2⟩
def VG (X : Cx) (tg : Expr) (vs : List Nat) (ga : D → Sl → Option Sl) : Prop := ∃ g : TG, PG X tg g ∧ ∀ σ0 σ G H S F d x S' (Q : St → Hp → Prop), SR σ0 G H σ S F → Fz G d x → ga d S = some S' → (∀ σ' F', SR σ0 G H σ' S' F' → Asg σ σ' F F' vs → Q σ' H) → g x σ H Q
def VGs (X : Cx) (tgs : List Expr) (vs : List Nat) (ga : List D → Sl → Option Sl) : Prop := ∃ g : TGs, PGs X tgs g ∧ ∀ σ0 σ G H S F ds xs S' (Q : St → Hp → Prop), SR σ0 G H σ S F → FzL G ds xs → ga ds S = some S' → (∀ σ' F', SR σ0 G H σ' S' F' → Asg σ σ' F F' vs → Q σ' H) → g xs σ H Q
def gaName (i : Nat) : D → Sl → Option Sl := fun d S => match S[i]? with
  | some ⟨false, _⟩ => some (S.put i (some (0, d)))
  | _ => none
theorem SR.name {i : Nat} {d : D} {x : V} {S' : Sl} (r : SR σ0 G H σ S F) (z : Fz G d x) (h : gaName i d S = some S') : SR σ0 G H (σ.set i (some x)) S' (fpPut F i []) ∧ Asg σ (σ.set i (some x)) F (fpPut F i []) [i] := by
  unfold gaName at h
  cases hc : S[i]? with
  | none => rw [hc] at h; cases h
  | some c =>
    obtain ⟨pin, val⟩ := c
    rw [hc] at h
    cases pin with
    | true => cases h
    | false =>
      cases h
      have hi : i < σ.length := by rw [r.len]; exact (List.getElem?_eq_some_iff.mp hc).1
      refine ⟨r.put hc (by simp) (fun j hj => List.getElem?_set_ne (Ne.symm hj)) (fun h => nomatch h) (fun k d' e => ?_) (fun _ => rfl) .nil (fun _ _ a h => by simp at h) fun a h => by simp at h, by simp, fun j hj => ?_, fun j => ?_⟩
      · cases e; exact ⟨x, by simp [List.getElem?_set_self hi], z, rfl⟩
      · simp at hj; exact List.getElem?_set_ne (Ne.symm hj)
      · by_cases hj : j = i
        · exact .inr ⟨by simp [hj], by simp [fpPut, hj]⟩
        · exact .inl (by simp [fpPut, hj])
theorem vg_name (i : Nat) {x : Str} (hN : X.N.Nodup) (hi : X.N[i]? = some x := by rfl) (hx : Loc X.env.scope x := by first | exact Or.inl rfl | exact Or.inr rfl) (hf : X.fn x = true ∨ X.env.scope.names.lookup x = some .local := by first | exact .inr rfl | exact .inl rfl) : VG X (.Name x pos) [i] (gaName i) :=
  ⟨_, pg_name hN hi hx hf, fun σ0 σ G H S F d x S' Q r z h k => let ⟨r', a⟩ := r.name z h; k _ _ r' a⟩
def gaNil : List D → Sl → Option Sl := fun ds S => match ds with
  | [] => some S
  | _ => none
def gaCons (a : D → Sl → Option Sl) (b : List D → Sl → Option Sl) : List D → Sl → Option Sl := fun ds S => match ds with
  | d :: r => (match a d S with
    | some S1 => b r S1
    | none => none)
  | [] => none
theorem vgs_nil : VGs X [] [] gaNil := ⟨_, pgs_nil, fun σ0 σ G H S F ds xs S' Q r z h k => by
  cases ds with
  | cons d ds => cases h
  | nil =>
    cases h
    simp only [FzL] at z
    exact ⟨z, k σ F r .refl⟩⟩
theorem vgs_cons {vs us : List Nat} {ga : D → Sl → Option Sl} {gb : List D → Sl → Option Sl} (a : VG X e vs ga) (b : VGs X es us gb) (hs : (assignEach (e :: es) X.env).map (·.2) = assign e X.env :: (assignEach es X.env).map (·.2) := by rfl) : VGs X (e :: es) (vs ++ us) (gaCons ga gb) := by
  obtain ⟨g, a1, a2⟩ := a
  obtain ⟨u, b1, b2⟩ := b
  refine ⟨_, pgs_cons a1 b1 hs, fun σ0 σ G H S F ds xs S' Q r z h k => ?_⟩
  cases ds with
  | nil => cases h
  | cons d ds =>
    simp only [gaCons] at h
    cases h1 : ga d S with
    | none => rw [h1] at h; cases h
    | some S1 =>
      rw [h1] at h
      simp only [FzL] at z
      obtain ⟨x, rr, rfl, z1, z2⟩ := z
      exact ⟨x, rr, rfl, a2 σ0 σ G H S F d x S1 _ r z1 h1 fun σ1 F1 r1 k1 => b2 σ0 σ1 G H S1 F1 ds rr S' _ r1 z2 h fun σ2 F2 r2 k2 => k σ2 F2 r2 (k1.trans k2)⟩
def gaTup (n : Nat) (ga : List D → Sl → Option Sl) : D → Sl → Option Sl := fun d S => match d with
  | .tup ds => if ds.length = n then ga ds S else none
  | _ => none
theorem vg_tup {vs : List Nat} {ga : List D → Sl → Option Sl} {k n : Nat} (hc : X.calm = true) (a : VGs X es vs ga) (hn : (assignEach es X.env).length = n := by rfl) (hst : (assignEach es X.env).findIdx? (·.1) = none := by rfl) : VG X (.Tuple es k pos) vs (gaTup n ga) := by
  obtain ⟨g, a1, a2⟩ := a
  refine ⟨_, pg_tup hc a1 hn hst, fun σ0 σ G H S F d x S' Q r z h k => ?_⟩
  cases d <;> simp only [gaTup] at h <;> first | (cases h; done) | skip
  rename_i ds
  split at h
  · rename_i hl
    simp only [Fz] at z
    obtain ⟨a, xs, rfl, rd, fz⟩ := z
    exact ⟨a, xs, rfl, .of (r.inc _ _ rd), by rw [fz.length, hl], a2 σ0 σ G H S F ds xs S' Q r fz h k⟩
  · cases h

/-! ### what is walked through -/
def Fy (G H : Hp) (d : D) (x : V) (H' : Hp) : Prop := (H' = H ∧ Fz G d x) ∨ ∃ T ds vs, d = .tup ds ∧ x = .ref T ∧ H T = none ∧ H' = upd H T (.tup vs) ∧ FzL G ds vs
def ItOk (b : Bool) (J : It) (G H : Hp) (xs : List D) : Prop := ∀ G' H', Inc G G' → Inc G' H' → (b = true → Inc H H') → ∀ i, (∀ d, xs[i]? = some d → J.go i H' ∧ ∀ x H'', J.yld i H' x H'' → Fy G' H' d x H'') ∧ (xs.length ≤ i → J.stop i H')
def VI (p b : Bool) (X : Cx) (W : WX) (tg e : Expr) (g : Sl → R (List D)) : Prop := ∃ wi : TI, PI X tg e wi ∧ ∀ σ0 σ G H S F (Q : It → Hp → Prop), SR σ0 G H σ S F →
  (g S).wp (fun xs S' => ∀ J G' H' F', SR σ0 G' H' σ S' F' → Gr p G H F S G' H' F' S' → ItOk b J G' H' xs → Q J H') (OkE σ0 σ G H S F W) → wi σ H Q
theorem fy_step {d : D} {x : V} {H' : Hp} (r : SR σ0 G H σ S F) (y : Fy G H d x H') : ∃ G', SR σ0 G' H' σ S F ∧ Gr true G H F S G' H' F S ∧ Fz G' d x := by
  rcases y with ⟨rfl, z⟩ | ⟨T, ds, vs, rfl, rfl, hT, rfl, z⟩
  · exact ⟨G, r, .refl r, z⟩
  · have := new_tup (σ0 := σ0) (σ := σ) (G := G) (H := H) (S := S) (F := F) (p := true) (S' := S) (Q := fun v H' => ∃ G', SR σ0 G' H' σ S F ∧ Gr true G H F S G' H' F S ∧ Fz G' (.tup ds) v) r (.refl r) z
      (fun v G' H' F' r' g' z' => by
        obtain ⟨_, e, _, _⟩ := g'.pure rfl
        subst e
        exact ⟨G', r', g', z'⟩) T hT
    exact this
theorem pi_or {tg : Expr} {wi wj : TI} (a : PI X tg e wi) (b : PI X tg e wj) : PI X tg e (fun σ H R => wi σ H R ∨ wj σ H R) :=
  ⟨fun pins s σ H R I h => h.elim (a.run pins s σ H R I) (b.run pins s σ H R I)⟩
/-- a list or a tuple -/
def itemsV (x : Vl) : Option (List D) := match x.d with
  | .lst ds => if x.lev then some ds else none
  | .tup ds => some ds
  | _ => none
def gSeq (b : Bool) (g : Sl → R Vl) : Sl → R (List D) := fun S => (g S).bind fun x S1 => if b || !x.b then (match itemsV x with | some ds => .ok ds S1 | none => .stuck) else .stuck
/-- the value at an owned, not borrowed list is frozen when a loop starts -/
theorem itl_ok {b : Bool} {K : PySem.W.Frag} {a : Addr} {vs : List V} {ds : List D} (h : G a = some (.lst vs) ∨ (b = true ∧ H a = some (.lst vs))) (z : FzL G ds vs) : ItOk b (Itl K a) G H ds := fun G' H' i1 i2 i3 i => by
  have ha : H' a = some (.lst vs) := by
    rcases h with h | ⟨hb, h⟩
    · exact i2 _ _ (i1 _ _ h)
    · exact i3 hb _ _ h
  refine ⟨fun d hd => ?_, fun hi => ⟨vs, .of ha, by rw [z.length]; exact hi⟩⟩
  obtain ⟨v, e1, e2⟩ := z.get hd
  refine ⟨⟨vs, v, .of ha, e1⟩, fun x H'' ⟨e, y⟩ => .inl ⟨e, ?_⟩⟩
  have := y vs (.of ha)
  rw [e1] at this; cases this
  exact e2.inc i1
theorem itt_ok {b : Bool} {K : PySem.W.Frag} {a : Addr} {vs : List V} {ds : List D} (h : G a = some (.tup vs)) (z : FzL G ds vs) : ItOk b (Itt K a) G H ds := fun G' H' i1 i2 i3 i => by
  have ha : H' a = some (.tup vs) := i2 _ _ (i1 _ _ h)
  refine ⟨fun d hd => ?_, fun hi => ⟨vs, .of ha, by rw [z.length]; exact hi⟩⟩
  obtain ⟨v, e1, e2⟩ := z.get hd
  refine ⟨⟨vs, v, .of ha, e1⟩, fun x H'' ⟨e, y⟩ => .inl ⟨e, ?_⟩⟩
  have := y vs (.of ha)
  rw [e1] at this; cases this
  exact e2.inc i1
theorem vi_seq (b : Bool) {tg : Expr} {g : Sl → R Vl} (h : VE p X W e g) : VI p b X W tg e (gSeq b g) := by
  obtain ⟨t, h1, h2⟩ := h
  refine ⟨_, pi_or (pi_list h1) (pi_tup h1), fun σ0 σ G H S F Q r hw => ?_⟩
  unfold gSeq at hw
  cases hg : g S with
  | stuck => rw [hg] at hw; exact hw.elim
  | err c w S' =>
    rw [hg] at hw
    refine .inl (h2 σ0 σ G H S F _ r ?_)
    rw [hg]; exact hw
  | ok x S' =>
    rw [hg] at hw
    simp only [R.bind] at hw
    split at hw
    · rename_i hb
      have run : ∀ {T : VK}, (OkV p σ0 σ G H S F T x S') → t σ H T := fun {T} k => h2 σ0 σ G H S F T r (by rw [hg]; exact k)
      obtain ⟨xb, xk, xd⟩ := x
      cases hi : itemsV ⟨xb, xk, xd⟩ with
      | none => rw [hi] at hw; exact hw.elim
      | some ds =>
        rw [hi] at hw
        unfold itemsV at hi
        cases xd <;> first | (simp only at hi; cases hi; done) | skip
        · simp only at hi
          split at hi
          · rename_i hl
            cases hi
            refine .inl (run fun v fp G' H' F' r' g' z' => ?_)
            cases xb with
            | true =>
              have hb' : b = true := by simpa using hb
              obtain ⟨a, vs, rfl, ha, fa⟩ := (z'.rv1 hl).lst r'.inc
              exact ⟨a, rfl, ⟨vs, .of ha⟩, hw (Itl X.K a) G' H' F' r' g' (itl_ok (.inr ⟨hb', ha⟩) fa)⟩
            | false =>
              obtain ⟨G2, r2, g2, z2⟩ := z'.freeze r' g' rfl
              obtain ⟨a, vs, rfl, ha, fa⟩ := z2.rv1.lst r2.inc
              simp only [Fz] at z2
              obtain ⟨a', vs', e, rd, fz⟩ := z2
              cases e
              exact ⟨a, rfl, ⟨vs, .of ha⟩, hw (Itl X.K a) G2 H' F' r2 g2 (itl_ok (.inl rd) fz)⟩
          · cases hi
        · cases hi
          refine .inr (run fun v fp G' H' F' r' g' z' => ?_)
          have zz := (z'.ow.atom rfl).1
          simp only [Fz] at zz
          obtain ⟨a, vs, rfl, ha, fa⟩ := zz
          exact ⟨a, rfl, ⟨vs, .of (r'.inc _ _ ha)⟩, hw (Itt X.K a) G' H' F' r' g' (itt_ok ha fa)⟩
    · exact hw.elim
end
end VL

set_option Elab.async false
set_option linter.all false
set_option autoImplicit false
set_option maxRecDepth 100000
namespace VL
open PySem PySem.Spec L2
open PyProof.Rows hiding St

/-! ## list comprehensions -/
def wipeFrom (vs : List Nat) : Nat → Sl → Sl
  | _, [] => []
  | i, c :: cs => (if vs.contains i then ⟨c.pin, none⟩ else c) :: wipeFrom vs (i + 1) cs
def Sl.wipe (S : Sl) (vs : List Nat) : Sl := wipeFrom vs 0 S
def restFrom (vs : List Nat) : Nat → Sl → Sl → Sl
  | i, c :: cs, d :: ds => (if vs.contains i then d else c) :: restFrom vs (i + 1) cs ds
  | _, _, _ => []
def wipeOk (vs : List Nat) (S : Sl) : Bool := vs.all fun v => match S[v]? with
  | some ⟨false, none⟩ => true
  | some ⟨false, some (0, _)⟩ => true
  | _ => false
theorem wipeFrom_get (vs : List Nat) : ∀ (S : Sl) (i j : Nat), (wipeFrom vs i S)[j]? = S[j]?.map fun c => if vs.contains (i + j) then ⟨c.pin, none⟩ else c
  | [], i, j => by simp [wipeFrom]
  | c :: cs, i, 0 => by simp [wipeFrom]
  | c :: cs, i, j + 1 => by
    simp only [wipeFrom, List.getElem?_cons_succ]
    rw [wipeFrom_get vs cs (i + 1) j, show i + 1 + j = i + (j + 1) by omega]
theorem wipe_get (vs : List Nat) (S : Sl) (j : Nat) : (S.wipe vs)[j]? = S[j]?.map fun c => if vs.contains j then ⟨c.pin, none⟩ else c := by
  unfold Sl.wipe
  rw [wipeFrom_get, Nat.zero_add]
theorem wipeFrom_len (vs : List Nat) : ∀ (S : Sl) (i : Nat), (wipeFrom vs i S).length = S.length
  | [], i => rfl
  | c :: cs, i => by simp [wipeFrom, wipeFrom_len vs cs (i + 1)]
theorem wipe_len (vs : List Nat) (S : Sl) : (S.wipe vs).length = S.length := wipeFrom_len vs S 0
theorem restFrom_get (vs : List Nat) : ∀ (S T : Sl) (i j : Nat), S.length = T.length → (restFrom vs i S T)[j]? = if vs.contains (i + j) then T[j]? else S[j]?
  | [], [], i, j, _ => by simp [restFrom]
  | c :: cs, d :: ds, i, 0, _ => by simp only [restFrom, List.getElem?_cons_zero, Nat.add_zero]; split <;> rfl
  | c :: cs, d :: ds, i, j + 1, h => by
    simp only [restFrom, List.getElem?_cons_succ]
    rw [restFrom_get vs cs ds (i + 1) j (by simpa using h), show i + 1 + j = i + (j + 1) by omega]
theorem restFrom_len (vs : List Nat) : ∀ (S T : Sl) (i : Nat), S.length = T.length → (restFrom vs i S T).length = S.length
  | [], [], i, _ => rfl
  | c :: cs, d :: ds, i, h => by simp [restFrom, restFrom_len vs cs ds (i + 1) (by simpa using h)]
theorem hwipe_ne {σ : St} {j : Nat} : ∀ {vs : List Nat}, j ∉ vs → (L2.wipe σ vs)[j]? = σ[j]?
  | [], _ => rfl
  | v :: vs, h => by
    simp only [List.mem_cons, not_or] at h
    unfold L2.wipe
    rw [List.getElem?_set_ne (Ne.symm h.1)]
    exact hwipe_ne h.2
theorem hwipe_in {σ : St} {j : Nat} (hj : j < σ.length) : ∀ {vs : List Nat}, j ∈ vs → (L2.wipe σ vs)[j]? = some none
  | v :: vs, h => by
    unfold L2.wipe
    by_cases e : v = j
    · subst e
      rw [List.getElem?_set_self (by rw [L2.wipe_length]; exact hj)]
    · rw [List.getElem?_set_ne e]
      exact hwipe_in hj (by simpa [Ne.symm e] using h)
theorem hwipe_ext {σ σ' : St} {vs : List Nat} (hl : σ'.length = σ.length) (h : ∀ j, j ∉ vs → σ'[j]? = σ[j]?) : L2.wipe σ' vs = L2.wipe σ vs := by
  apply List.ext_getElem?
  intro j
  by_cases hj : j ∈ vs
  · by_cases hk : j < σ.length
    · rw [hwipe_in (by omega) hj, hwipe_in hk hj]
    · rw [List.getElem?_eq_none (by rw [L2.wipe_length]; omega), List.getElem?_eq_none (by rw [L2.wipe_length]; omega)]
  · rw [hwipe_ne hj, hwipe_ne hj, h j hj]

def R.noerr {α : Type} : R α → R α
  | .err _ _ _ => .stuck
  | r => r
theorem R.wp_noerr {α β : Type} {r : R α} {f : α → Sl → R β} {ok : β → Sl → Prop} {er er' : Addr → Option (Str × D) → Sl → Prop} (h : (r.noerr.bind f).wp ok er) : r.wp (fun a s => (f a s).wp ok er) er' := by
  cases r with
  | err c w s => exact False.elim h
  | ok a s => exact h
  | stuck => exact h

section
variable {X : Cx} {W : WX} {p q q' : Bool} {e ea eb : Expr} {es : List Expr} {pos : Pos}
variable {σ0 σ : St} {G H G1 H1 G2 H2 : Hp} {F F1 F2 : Fps} {S S1 S2 : Sl}
theorem SR.wipe {vs : List Nat} (r : SR σ0 G H σ S F) (h : wipeOk vs S = true) : SR σ0 G H (L2.wipe σ vs) (S.wipe vs) F ∧ ∀ j ∈ vs, F j = [] := by
  have em : ∀ j ∈ vs, (∀ c, S[j]? = some c → c.pin = false) ∧ F j = [] := fun j hj => by
    have := List.all_eq_true.mp h j hj
    cases hc : S[j]? with
    | none => rw [hc] at this; cases this
    | some c =>
      obtain ⟨pin, val⟩ := c
      obtain ⟨h1, h2, h3⟩ := r.row j _ hc
      rw [hc] at this
      cases pin with
      | true => simp at this
      | false =>
        refine ⟨fun c e => by cases e; rfl, ?_⟩
        cases val with
        | none => exact h3 rfl
        | some kd =>
          obtain ⟨k, d⟩ := kd
          cases k with
          | zero => obtain ⟨v, _, _, z⟩ := h2 0 d rfl; exact z
          | succ k => simp at this
  refine ⟨⟨by rw [L2.wipe_length, wipe_len]; exact r.len, fun i c hc => ?_, fun i hi => r.out i (by rw [wipe_len] at hi; exact hi), r.nd, r.dj, r.fs, r.inc, r.tp⟩, fun j hj => (em j hj).2⟩
  rw [wipe_get] at hc
  cases hs : S[i]? with
  | none => rw [hs] at hc; cases hc
  | some c0 =>
    rw [hs] at hc
    simp only [Option.map_some] at hc
    by_cases hi : i ∈ vs
    · rw [if_pos (by simpa using hi)] at hc
      cases hc
      exact ⟨(fun z => by rw [(em i hi).1 c0 hs] at z; cases z), (fun k d z => nomatch z), fun _ => (em i hi).2⟩
    · rw [if_neg (by simpa using hi)] at hc
      cases hc
      rw [hwipe_ne hi]
      exact r.row i _ hs
theorem SR.unwipe {vs : List Nat} {T : Sl} {F' : Fps} (r : SR σ0 G H σ S F) (h : wipeOk vs S = true) (r' : SR σ0 G1 H1 (L2.wipe σ vs) T F') (hF : ∀ j ∈ vs, F' j = []) (hi : Inc G G1) : SR σ0 G1 H1 σ (restFrom vs 0 T S) F' := by
  have hl : T.length = S.length := by rw [← r'.len, L2.wipe_length]; exact r.len
  refine ⟨by rw [restFrom_len _ _ _ _ hl, hl]; exact r.len, fun i c hc => ?_, fun i h' => r'.out i (by rw [restFrom_len _ _ _ _ hl] at h'; exact h'), r'.nd, r'.dj, r'.fs, r'.inc, r'.tp⟩
  rw [restFrom_get _ _ _ _ _ hl, Nat.zero_add] at hc
  by_cases hv : i ∈ vs
  · rw [if_pos (by simpa using hv)] at hc
    obtain ⟨h1, h2, h3⟩ := r.row i c hc
    have e := hF i hv
    have := List.all_eq_true.mp h i hv
    rw [hc] at this
    refine ⟨h1, fun k d z => ?_, fun _ => e⟩
    obtain ⟨v, e1, e2⟩ := h2 k d z
    obtain ⟨pin, val⟩ := c
    simp only at z
    subst z
    cases pin <;> cases k <;> first | (simp at this; done) | skip
    exact ⟨v, e1, e2.1.inc hi, e⟩
  · rw [if_neg (by simpa using hv)] at hc
    have := r'.row i c hc
    rw [hwipe_ne hv] at this
    exact this
theorem SR.upd_out {a : Addr} {o : HO} (r : SR σ0 G H σ S F) (hf : ∀ i, a ∉ F i) (hg : G a = none) (ho : ∀ us, o ≠ .tup us := by intro _ z; cases z) : SR σ0 G (upd H a o) σ S F :=
  ⟨r.len, fun i c hc => by
    obtain ⟨h1, h2, h3⟩ := r.row i c hc
    refine ⟨h1, fun k d e => ?_, h3⟩
    obtain ⟨v, e1, e2⟩ := h2 k d e
    exact ⟨v, e1, e2.keep (Inc.refl _) fun b hb o' ho => by rw [upd_ne fun e : b = a => hf i (e ▸ hb)]; exact ho⟩, r.out, r.nd, r.dj, r.fs, fun b o' ho => by
    rw [upd_ne fun e : b = a => by subst e; rw [hg] at ho; cases ho]
    exact r.inc b o' ho, fun b us e => by
    by_cases hb : b = a
    · subst hb; rw [upd_same] at e; exact absurd (Option.some.inj e) (ho us)
    · rw [upd_ne hb] at e; exact r.tp b us e⟩
theorem Gr.updD {a : Addr} {o : HO} (g : Gr p G H F S G1 H1 F1 S1) (h : H a = none) : Gr p G H F S G1 (upd H1 a o) F1 S1 :=
  ⟨g.up, g.new, fun b u hb hf => by rw [upd_ne (ne_of_none hb h)]; exact g.fr b u hb hf, g.src, fun hp => let ⟨a1, a2, a3, a4⟩ := g.pure hp; ⟨a1, a2, fun b u hb => by rw [upd_ne (ne_of_none hb h)]; exact a3 b u hb, a4⟩⟩
/-- the slots of a pure step may be told otherwise -/
theorem Gr.slots {T : Sl} (g : Gr true G H F S1 G1 H1 F1 S2) : F1 = F ∧ Gr true G H F T G1 H1 F T := by
  obtain ⟨a1, a2, a3, a4⟩ := g.pure rfl
  subst a2
  exact ⟨rfl, g.up, g.new, g.fr, g.src, fun _ => ⟨rfl, rfl, a3, a4⟩⟩
theorem Gr.anyS {T T' : Sl} (g : Gr p G H F S1 G1 H1 F1 S2) : Gr false G H F T G1 H1 F1 T' := ⟨g.up, g.new, g.fr, g.src, fun h => nomatch h⟩
/-- the state of the slots is the same in a later heap -/
theorem SR.later (r : SR σ0 G H σ S F) (g : Gr true G H F S1 G1 H1 F1 S2) (i1 : Inc G1 H1) (h : ∀ i a, a ∈ F i → G1 a = none) (ht : ∀ a us, H1 a = some (.tup us) → G1 a = some (.tup us)) : SR σ0 G1 H1 σ S F := by
  obtain ⟨a1, a2, a3, a4⟩ := g.pure rfl
  exact ⟨r.len, fun i c hc => by
    obtain ⟨h1, h2, h3⟩ := r.row i c hc
    refine ⟨h1, fun k d e => ?_, h3⟩
    obtain ⟨v, e1, e2⟩ := h2 k d e
    exact ⟨v, e1, e2.keep g.up fun b hb o' ho => a3 b o' ho⟩, r.out, r.nd, r.dj, h, i1, ht⟩

/-! ### filters -/
def VTs (p : Bool) (X : Cx) (W : WX) (ifs : List Expr) (g : Sl → R Bool) : Prop := ∃ t, PTs X ifs t ∧ ∀ σ0 σ G H S F Q, SR σ0 G H σ S F → (g S).wp (OkB p σ0 σ G H S F Q) (OkE σ0 σ G H S F W) → t σ H Q
def gYes : Sl → R Bool := fun S => .ok true S
theorem vts_nil : VTs true X W [] gYes := ⟨_, pts_nil, fun σ0 σ G H S F Q r hw => hw G H F r (.refl r)⟩
theorem vts_one {g : Sl → R Bool} (h : VT p X W e g) : VTs p X W [e] g := by
  obtain ⟨t, h1, h2⟩ := h
  exact ⟨t, pts_one h1, h2⟩
theorem VTs.can {ifs : List Expr} {g : Sl → R Bool} (h : VTs p X W ifs g) : PTs X ifs (tVT p W g) := by
  obtain ⟨t, h1, h2⟩ := h
  exact ⟨fun pins s σ H Q I ⟨σ0, G, S, F, r, hw⟩ => h1.run pins s σ H Q I (h2 σ0 σ G H S F Q r hw)⟩
def tVG (vs : List Nat) (ga : D → Sl → Option Sl) : TG := fun x σ H Q => ∃ σ0 G S F d S', SR σ0 G H σ S F ∧ Fz G d x ∧ ga d S = some S' ∧ ∀ σ' F', SR σ0 G H σ' S' F' → Asg σ σ' F F' vs → Q σ' H
theorem VG.can {tg : Expr} {vs : List Nat} {ga : D → Sl → Option Sl} (h : VG X tg vs ga) : PG X tg (tVG vs ga) := by
  obtain ⟨t, h1, h2⟩ := h
  exact ⟨fun pins s σ H v u Q I rv ⟨σ0, G, S, F, d, S', r, z, hg, k⟩ => h1.run pins s σ H v u Q I rv (h2 σ0 σ G H S F d v S' Q r z hg k)⟩

/-! ### the loop -/
def loopLc (pu : Bool) (vs : List Nat) (ga : D → Sl → Option Sl) (gt : Sl → R Bool) (ge : Sl → R D) : List D → Sl → R (List D)
  | [], S => .ok [] S
  | d :: ds, S => match ga d S with
    | none => .stuck
    | some S1 => (gt S1).bind fun b S2 => if b then (ge S2).bind fun y S3 => if pu || wipeOk vs S3 then (loopLc pu vs ga gt ge ds (if pu then S else S3.wipe vs)).bind fun ys S4 => .ok (y :: ys) S4 else .stuck
      else if pu || wipeOk vs S2 then loopLc pu vs ga gt ge ds (if pu then S else S2.wipe vs) else .stuck
def gLc (pu : Bool) (vs : List Nat) (gi : Sl → R (List D)) (ga : D → Sl → Option Sl) (gt : Sl → R Bool) (ge : Sl → R D) : Sl → R Vl := fun S => (gi S).bind fun xs S1 =>
  if wipeOk vs S1 && lineOk xs then (loopLc pu vs ga gt ge xs (S1.wipe vs)).noerr.bind fun ys S2 => .ok ⟨false, 1, .lst ys⟩ (restFrom vs 0 S2 S1) else .stuck
def W0 : WX := fun _ _ _ _ => False
/-- where the loop stands -/
def LcI (pu : Bool) (vs : List Nat) (ga : D → Sl → Option Sl) (gt : Sl → R Bool) (ge : Sl → R D) (xs : List D) (σ0 σw : St) (G1 H1 : Hp) (F1 : Fps) (Sw : Sl) (C : Addr) (Fin : List D → Sl → Prop) (i : Nat) (H : Hp) : Prop :=
  ∃ acc us G F S, i ≤ xs.length ∧ SR σ0 G H σw S F ∧ Gr pu G1 H1 F1 Sw G H F S ∧ H C = some (.lst us) ∧ FzL G acc us ∧ acc.length ≤ i ∧ (∀ j, C ∉ F j) ∧ G C = none ∧ (∀ j ∈ vs, F j = []) ∧
    (loopLc pu vs ga gt ge (xs.drop i) S).wp (fun ys S' => Fin (acc ++ ys) S') (fun _ _ _ => False)
theorem lc_sem {vs vs' : List Nat} {b pu : Bool} {gi : Sl → R (List D)} {ga : D → Sl → Option Sl} {gt : Sl → R Bool} {ge : Sl → R D} {wi : TI}
    (i2 : ∀ σ0 σ G H S F (Q : It → Hp → Prop), SR σ0 G H σ S F → (gi S).wp (fun xs S' => ∀ J G' H' F', SR σ0 G' H' σ S' F' → Gr p G H F S G' H' F' S' → ItOk b J G' H' xs → Q J H') (OkE σ0 σ G H S F W) → wi σ H Q)
    (hv : vs'.all (fun v => vs.contains v) = true) (hpu : pu = (q && q')) (hb : b = true → pu = true) {Q : VK} (r : SR σ0 G H σ S F) (hw : (gLc pu vs gi ga gt ge S).wp (OkV (p && pu) σ0 σ G H S F Q) (OkE σ0 σ G H S F W)) :
    tLc wi (tVG vs' ga) (tVT q W0 gt) (tVD q' W0 ge) vs σ H Q := by
  refine i2 σ0 σ G H S F _ r (R.wp_mono (R.wp_bind hw) (fun xs S1 hw1 J G1 H1 F1 r1 g1 ito => ?_) fun _ _ _ h => h)
  split at hw1
  case isFalse => exact hw1.elim
  rename_i hwo
  obtain ⟨hwo, hlx⟩ := Bool.and_eq_true_iff.mp hwo
  intro C hC
  obtain ⟨rw1, rw2⟩ := r1.wipe hwo
  have hw2 : (loopLc pu vs ga gt ge xs (S1.wipe vs)).wp (fun ys S' => OkV (p && pu) σ0 σ G H S F Q ⟨false, 1, .lst ys⟩ (restFrom vs 0 S' S1)) (fun _ _ _ => False) := R.wp_noerr hw1
  generalize hFin : (fun (ys : List D) (S' : Sl) => OkV (p && pu) σ0 σ G H S F Q ⟨false, 1, .lst ys⟩ (restFrom vs 0 S' S1)) = Fin at hw2
  have gone : ∀ i, C ∉ F1 i := fun i => r1.notF hC i
  refine ⟨fun i m H => m = xs.length - i ∧ LcI pu vs ga gt ge xs σ0 (L2.wipe σ vs) G1 H1 F1 (S1.wipe vs) C Fin i H, ⟨xs.length, rfl, [], [], G1, F1, S1.wipe vs, Nat.zero_le _, rw1.new hC, (Gr.refl rw1).updD hC, upd_same, .nil, Nat.le_refl _, gone, r1.gNone hC, rw2, by simpa using hw2⟩, ?_⟩
  rintro i m H' ⟨rfl, acc, us, G', F', S', hi, r', g', hHC, fz, hal, hCF, hCG, hFv, hl⟩
  have it := ito G' H' g'.up r'.inc (fun hb' => (g'.pure (hb hb')).2.2.1) i
  by_cases hlt : i < xs.length
  · -- a turn
    obtain ⟨d, hd⟩ : ∃ d, xs[i]? = some d := ⟨xs[i], by simp [hlt]⟩
    have hdr : xs.drop i = d :: xs.drop (i + 1) := by
      rw [List.drop_eq_getElem_cons hlt]
      rw [List.getElem?_eq_getElem hlt] at hd
      cases hd; rfl
    rw [hdr] at hl
    obtain ⟨go, yl⟩ := it.1 d hd
    refine .inr ⟨go, LcI pu vs ga gt ge xs σ0 (L2.wipe σ vs) G1 H1 F1 (S1.wipe vs) C Fin (i + 1), fun H'' h => ⟨_, by omega, rfl, h⟩, fun x H2 hy => ?_⟩
    obtain ⟨G2, r2, g2, z2⟩ := fy_step r' (yl x H2 hy)
    have hHC2 := g2.fr C _ hHC hCF
    have hCG2 := g2.keepG hHC hCF hCG
    simp only [loopLc] at hl
    cases hga : ga d S' with
    | none => rw [hga] at hl; exact hl.elim
    | some Sa =>
      rw [hga] at hl
      refine ⟨σ0, G2, S', F', d, Sa, r2, z2, hga, fun σ2 F2 ra asg => ?_⟩
      have hF2 : F2 = F' := by
        funext j
        rcases asg.F j with h | ⟨h1, h2⟩
        · exact h
        · rw [h2, hFv j (by simpa using List.all_eq_true.mp hv j h1)]
      subst hF2
      have hσ : L2.wipe σ2 vs = L2.wipe σ vs := hwipe_ext (by rw [asg.len, L2.wipe_length]) fun j hj => by
        rw [asg.σ j fun h => hj (by simpa using List.all_eq_true.mp hv j h), hwipe_ne hj]
      refine ⟨hσ, σ0, G2, Sa, F2, ra, R.wp_mono (R.wp_bind hl) (fun bb S3 hb3 G3 H3 F3 r3 g3 => ?_) fun _ _ _ h => h.elim⟩
      have hHC3 := g3.fr C _ hHC2 hCF
      have hCG3 := g3.keepG hHC2 hCF hCG2
      have hCF3 : ∀ j, C ∉ F3 j := fun j hj => by
        rcases g3.src j C hj with ⟨k, hk⟩ | hn
        · exact hCF k hk
        · rw [hHC2] at hn; cases hn
      -- what stands at the end of a turn
      have fin : ∀ {G4 H4 : Hp} {F4 : Fps} {S4 : Sl}, SR σ0 G4 H4 σ2 S4 F4 → Gr pu G2 H2 F2 Sa G4 H4 F4 S4 → (pu || wipeOk vs S4) = true →
          SR σ0 G4 H4 (L2.wipe σ vs) (if pu then S' else S4.wipe vs) F4 ∧ Gr pu G1 H1 F1 (S1.wipe vs) G4 H4 F4 (if pu then S' else S4.wipe vs) ∧ ∀ j ∈ vs, F4 j = [] := fun {G4 H4 F4 S4} r4 g4 hok => by
        cases pu with
        | true =>
          obtain ⟨e, g5⟩ := g4.slots (T := S')
          subst e
          exact ⟨r2.later g4 r4.inc r4.fs r4.tp, (g'.trans (g2.trans g5)).weak (fun _ => rfl), hFv⟩
        | false =>
          obtain ⟨r5, r6⟩ := r4.wipe (vs := vs) (by simpa using hok)
          rw [hσ] at r5
          exact ⟨r5, (g'.off.trans (g2.off.trans (g4.anyS (T := S') (T' := S')))).anyS, r6⟩
      cases bb with
      | false =>
        simp only [Bool.false_eq_true, if_false] at hb3 ⊢
        split at hb3
        case isFalse => exact hb3.elim
        rename_i hok
        obtain ⟨f1, f2, f3⟩ := fin r3 (g3.weak fun h => by rw [hpu] at h; exact (Bool.and_eq_true_iff.mp h).1) hok
        exact ⟨acc, us, G3, F3, _, hlt, f1, f2, hHC3, fz.inc (g2.up.trans g3.up), Nat.le_succ_of_le hal, hCF3, hCG3, f3, hb3⟩
      | true =>
        simp only [if_true] at hb3 ⊢
        refine ⟨σ0, G3, S3, F3, r3, R.wp_mono (R.wp_bind hb3) (fun y S4 hb4 v G4 H4 F4 r4 g4 z4 => ?_) fun _ _ _ h => h.elim⟩
        split at hb4
        case isFalse => exact hb4.elim
        rename_i hok
        have hHC4 := g4.fr C _ hHC3 hCF3
        have hCG4 := g4.keepG hHC3 hCF3 hCG3
        have hCF4 : ∀ j, C ∉ F4 j := fun j hj => by
          rcases g4.src j C hj with ⟨k, hk⟩ | hn
          · exact hCF3 k hk
          · rw [hHC3] at hn; cases hn
        obtain ⟨f1, f2, f3⟩ := fin r4 ((g3.trans g4).weak fun h => by rw [hpu] at h; exact h) hok
        have fz4 := fz.inc (g2.up.trans (g3.up.trans g4.up))
        refine ⟨us, hHC4, ?_, acc ++ [y], us ++ [v], G4, F4, _, hlt, f1.upd_out hCF4 hCG4, f2.updD hC, upd_same, fz4.append (.cons z4 .nil), by simp; omega, hCF4, hCG4, f3, ?_⟩
        · rw [fz.length]
          exact Nat.lt_of_lt_of_le (Nat.lt_of_le_of_lt hal hlt) (lineOk.le hlx)
        · refine R.wp_mono (R.wp_bind hb4) (fun ys S5 h5 => ?_) fun _ _ _ h => h
          rw [List.append_assoc]
          exact h5
  · -- the end
    have hie : i = xs.length := by omega
    subst hie
    refine .inl ⟨it.2 (Nat.le_refl _), ?_⟩
    rw [List.drop_length] at hl
    have hl : Fin (acc ++ []) S' := hl
    rw [List.append_nil] at hl
    subst hFin
    refine hl (.ref C) [C] G' H' F' (r1.unwipe hwo r' hFv g'.up) ?_ ?_
    · cases hq : pu with
      | true =>
        rw [hq] at g'
        obtain ⟨a1, a2, a3, a4⟩ := g'.pure rfl
        subst a2
        have e : restFrom vs 0 S' S1 = S1 := by
          subst a1
          apply List.ext_getElem?
          intro j
          rw [restFrom_get _ _ _ _ _ (wipe_len _ _), Nat.zero_add, wipe_get]
          by_cases hj : j ∈ vs
          · rw [if_pos (by simpa using hj)]
          · rw [if_neg (by simpa using hj)]
            cases S1[j]? with
            | none => rfl
            | some c => simp [hj]
        rw [e]
        have g5 : Gr true G1 H1 F' S1 G' H' F' S1 := ⟨g'.up, g'.new, g'.fr, g'.src, fun _ => ⟨rfl, rfl, a3, a4⟩⟩
        exact (g1.trans g5).weak fun h => by simpa using h
      | false => exact ((g1.trans (g'.anyS (T := S1) (T' := S1))).anyS).weak fun h => by simp at h
    · refine VP.from g1 ⟨⟨C, us, [], rfl, hHC, rfl, owL_fz fz⟩, fun _ => by simp, fun _ a ha => ?_, fun _ j a ha => ?_, fun _ a ha => ?_⟩
      · have e : a = C := by simpa using ha
        subst e; exact .inr hC
      · have e : a = C := by simpa using ha
        subst e; exact hCF j
      · have e : a = C := by simpa using ha
        subst e; exact hCG
theorem ve_lc {elt tg iter : Expr} {ifs : List Expr} {scope : Scope} {own : List (Str × Nat)} {vs' : List Nat} {b pu : Bool} {gi : Sl → R (List D)} {ga : D → Sl → Option Sl} {gt : Sl → R Bool} {ge : Sl → R D}
    (hc : X.calm = true) (hN : X.N.Nodup) (hi : VI p b X W tg iter gi) (ok : BlkOk X.N X.env.scope scope own)
    (hg : ∀ (s : Shared) (H : Hp) (C : Addr) (cl : List (Str × Addr)) (fp : List Addr), VG (X.blk s H scope (compEnvC scope cl C X.env) fp) tg vs' ga)
    (ht : ∀ (s : Shared) (H : Hp) (C : Addr) (cl : List (Str × Addr)) (fp : List Addr), VTs q (X.blk s H scope (compEnvC scope cl C X.env) fp) W0 ifs gt)
    (he : ∀ (s : Shared) (H : Hp) (C : Addr) (cl : List (Str × Addr)) (fp : List Addr), VD q' (X.blk s H scope (compEnvC scope cl C X.env) fp) W0 elt ge)
    (hv : vs'.all (fun v => (own.map (·.2)).contains v) = true) (hpu : pu = (q && q')) (hb : b = true → pu = true) (hs : ∀ x, foldedSetIterable iter X.env x = pure x := by intro _; rfl) :
    VE (p && pu) X W (.ListComp elt [⟨tg, iter, ifs, 0⟩] scope pos) (gLc pu (own.map (·.2)) gi ga gt ge) := by
  obtain ⟨wi, i1, i2⟩ := hi
  exact ⟨_, pe_lc hc hN i1 ok (fun s H C cl fp => (hg s H C cl fp).can) (fun s H C cl fp => (ht s H C cl fp).can) (fun s H C cl fp => (he s H C cl fp).can) hs, fun σ0 σ G H S F Q r hw => lc_sem i2 hv hpu hb r hw⟩
end
end VL

set_option Elab.async false
set_option linter.all false
set_option autoImplicit false
set_option maxRecDepth 100000
namespace VL
open PySem PySem.Spec L2
open PyProof.Rows hiding St

section
variable {X : Cx} {W : WX} {p q p' : Bool} {e ea eb ec : Expr} {es : List Expr} {pos : Pos}
variable {σ0 σ : St} {G H G1 H1 G2 H2 : Hp} {F F1 F2 : Fps} {S S1 S2 : Sl}

theorem VT.run {g : Sl → R Bool} (h : VT p X W e g) : ∃ t, PT X e t ∧ ∀ σ0 σ G H S F Q, SR σ0 G H σ S F → (g S).wp (OkB p σ0 σ G H S F Q) (OkE σ0 σ G H S F W) → t σ H Q := h
/-- the end of a row of steps, told from its start -/
theorem OkD.from {Q : VK} {d : D} {S' : Sl} (g : Gr p G H F S G1 H1 F1 S1) (h : OkD p' σ0 σ G H S F Q d S') (hp : p' = true → p = true ∧ q = true) : OkD q σ0 σ G1 H1 S1 F1 Q d S' :=
  fun v G' H' F' r' g' z' => h v G' H' F' r' ((g.trans g').weak fun x => by obtain ⟨a, b⟩ := hp x; rw [a, b]; rfl) z'
theorem OkV.from {Q : VK} {x : Vl} {S' : Sl} (g : Gr p G H F S G1 H1 F1 S1) (h : OkV p' σ0 σ G H S F Q x S') (hp : p' = true → p = true ∧ q = true) : OkV q σ0 σ G1 H1 S1 F1 Q x S' :=
  fun v fp G' H' F' r' g' z' => h v fp G' H' F' r' ((g.trans g').weak fun x => by obtain ⟨a, b⟩ := hp x; rw [a, b]; rfl) (VP.from g z')
theorem OkB.from {Q : Bool → Hp → Prop} {x : Bool} {S' : Sl} (g : Gr p G H F S G1 H1 F1 S1) (h : OkB p' σ0 σ G H S F Q x S') (hp : p' = true → p = true ∧ q = true) : OkB q σ0 σ G1 H1 S1 F1 Q x S' :=
  fun G' H' F' r' g' => h G' H' F' r' ((g.trans g').weak fun x => by obtain ⟨a, b⟩ := hp x; rw [a, b]; rfl)
theorem and2 : (p && q) = true → p = true ∧ q = true := fun h => Bool.and_eq_true_iff.mp h
theorem and3 : (p && q && p') = true → (p && q) = true ∧ p' = true := fun h => Bool.and_eq_true_iff.mp h

/-! ### and, or, not: tests -/
def gAnd (a b : Sl → R Bool) : Sl → R Bool := fun S => (a S).bind fun x S1 => if x then b S1 else .ok false S1
def gOr (a b : Sl → R Bool) : Sl → R Bool := fun S => (a S).bind fun x S1 => if x then .ok true S1 else b S1
def gNot (a : Sl → R Bool) : Sl → R Bool := fun S => (a S).bind fun x S1 => .ok (!x) S1
def VW (p : Bool) (X : Cx) (W : WX) (e : Expr) (g : Sl → R Bool) : Prop := ∃ t, PW X e t ∧ ∀ σ0 σ G H S F Q, SR σ0 G H σ S F → (g S).wp (OkB p σ0 σ G H S F Q) (OkE σ0 σ G H S F W) → t σ H Q
theorem VW.vt {g : Sl → R Bool} (h : VW p X W e g) : VT p X W e g := by
  obtain ⟨t, h1, h2⟩ := h
  exact ⟨t, h1.pt, h2⟩
theorem vw_and1 {g : Sl → R Bool} (h : VT p X W e g) : VW p X W (.BoolOp .And [e] pos) g := by
  obtain ⟨t, h1, h2⟩ := h
  exact ⟨t, pw_and1 h1, h2⟩
theorem vw_or1 {g : Sl → R Bool} (h : VT p X W e g) : VW p X W (.BoolOp .Or [e] pos) g := by
  obtain ⟨t, h1, h2⟩ := h
  exact ⟨t, pw_or1 h1, h2⟩
theorem vw_and {ga gb : Sl → R Bool} (a : VT p X W ea ga) (b : VW q X W (.BoolOp .And (eb :: es) pos) gb) : VW (p && q) X W (.BoolOp .And (ea :: eb :: es) pos) (gAnd ga gb) := by
  obtain ⟨ta, a1, a2⟩ := a
  obtain ⟨tb, b1, b2⟩ := b
  refine ⟨_, pw_and a1 b1, fun σ0 σ G H S F Q r hw => ?_⟩
  refine VT.then (t := ta) a2 r hw fun x S1 G1 H1 F1 r1 g1 hw1 => ?_
  cases x with
  | true => exact b2 σ0 σ G1 H1 S1 F1 Q r1 (R.wp_mono hw1 (fun y S2 h => OkB.from g1 h and2) fun _ _ _ h => h)
  | false => exact hw1 G1 H1 F1 r1 (g1.weak fun h => (and2 h).1)
theorem vw_or {ga gb : Sl → R Bool} (a : VT p X W ea ga) (b : VW q X W (.BoolOp .Or (eb :: es) pos) gb) : VW (p && q) X W (.BoolOp .Or (ea :: eb :: es) pos) (gOr ga gb) := by
  obtain ⟨ta, a1, a2⟩ := a
  obtain ⟨tb, b1, b2⟩ := b
  refine ⟨_, pw_or a1 b1, fun σ0 σ G H S F Q r hw => ?_⟩
  refine VT.then (t := ta) a2 r hw fun x S1 G1 H1 F1 r1 g1 hw1 => ?_
  cases x with
  | false => exact b2 σ0 σ G1 H1 S1 F1 Q r1 (R.wp_mono hw1 (fun y S2 h => OkB.from g1 h and2) fun _ _ _ h => h)
  | true => exact hw1 G1 H1 F1 r1 (g1.weak fun h => (and2 h).1)
theorem vt_not {ga : Sl → R Bool} (a : VT p X W e ga) : VT p X W (.UnaryOp .Not e pos) (gNot ga) := by
  obtain ⟨ta, a1, a2⟩ := a
  refine ⟨_, pt_not a1, fun σ0 σ G H S F Q r hw => ?_⟩
  exact VT.then (t := ta) a2 r hw fun x S1 G1 H1 F1 r1 g1 hw1 => hw1 G1 H1 F1 r1 g1
/-! ### .. as values -/
def gAndV (a b : Sl → R D) : Sl → R D := fun S => (a S).bind fun x S1 => match x with | .bl true => b S1 | .bl false => .ok (.bl false) S1 | _ => .stuck
def gOrV (a b : Sl → R D) : Sl → R D := fun S => (a S).bind fun x S1 => match x with | .bl true => .ok (.bl true) S1 | .bl false => b S1 | _ => .stuck
def gNotV (a : Sl → R D) : Sl → R D := fun S => (a S).bind fun x S1 => match x with | .bl b => .ok (.bl (!b)) S1 | _ => .stuck
theorem vd_one {op : BoolOp} {g : Sl → R D} (a : VD p X W e g) : VD p X W (.BoolOp op [e] pos) g := by
  obtain ⟨ta, a1, a2⟩ := a
  exact ⟨ta, pe_one a1, a2⟩
theorem vd_and {ga gb : Sl → R D} (a : VD p X W ea ga) (b : VD q X W (.BoolOp .And (eb :: es) pos) gb) : VD (p && q) X W (.BoolOp .And (ea :: eb :: es) pos) (gAndV ga gb) := by
  obtain ⟨ta, a1, a2⟩ := a
  obtain ⟨tb, b1, b2⟩ := b
  refine ⟨_, pe_and a1 b1, fun σ0 σ G H S F Q r hw => ?_⟩
  refine VD.then (t := ta) a2 r hw fun x S1 v G1 H1 F1 r1 g1 z1 hw1 => ?_
  cases x <;> first | exact hw1.elim | skip
  rename_i c
  simp only [Fz] at z1
  refine ⟨c, z1, ?_⟩
  cases c with
  | true => exact b2 σ0 σ G1 H1 S1 F1 Q r1 (R.wp_mono hw1 (fun y S2 h => OkD.from g1 h and2) fun _ _ _ h => h)
  | false => exact hw1 (.bl false) G1 H1 F1 r1 (g1.weak fun h => (and2 h).1) rfl
theorem vd_or {ga gb : Sl → R D} (a : VD p X W ea ga) (b : VD q X W (.BoolOp .Or (eb :: es) pos) gb) : VD (p && q) X W (.BoolOp .Or (ea :: eb :: es) pos) (gOrV ga gb) := by
  obtain ⟨ta, a1, a2⟩ := a
  obtain ⟨tb, b1, b2⟩ := b
  refine ⟨_, pe_or a1 b1, fun σ0 σ G H S F Q r hw => ?_⟩
  refine VD.then (t := ta) a2 r hw fun x S1 v G1 H1 F1 r1 g1 z1 hw1 => ?_
  cases x <;> first | exact hw1.elim | skip
  rename_i c
  simp only [Fz] at z1
  refine ⟨c, z1, ?_⟩
  cases c with
  | false => exact b2 σ0 σ G1 H1 S1 F1 Q r1 (R.wp_mono hw1 (fun y S2 h => OkD.from g1 h and2) fun _ _ _ h => h)
  | true => exact hw1 (.bl true) G1 H1 F1 r1 (g1.weak fun h => (and2 h).1) rfl
theorem vd_not {ga : Sl → R D} (a : VD p X W e ga) : VD p X W (.UnaryOp .Not e pos) (gNotV ga) := by
  obtain ⟨ta, a1, a2⟩ := a
  refine ⟨_, pe_not a1, fun σ0 σ G H S F Q r hw => ?_⟩
  refine VD.then (t := ta) a2 r hw fun x S1 v G1 H1 F1 r1 g1 z1 hw1 => ?_
  cases x <;> first | exact hw1.elim | skip
  rename_i c
  simp only [Fz] at z1
  exact ⟨c, z1, hw1 _ G1 H1 F1 r1 g1 rfl⟩
/-- a if c else b -/
def gIfE {α : Type} (c : Sl → R Bool) (a b : Sl → R α) : Sl → R α := fun S => (c S).bind fun x S1 => if x then a S1 else b S1
theorem ve_if {gc : Sl → R Bool} {ga gb : Sl → R Vl} (c : VT p X W ec gc) (a : VE q X W ea ga) (b : VE p' X W eb gb) : VE (p && q && p') X W (.IfExp ec ea eb pos) (gIfE gc ga gb) := by
  obtain ⟨tc, c1, c2⟩ := c
  obtain ⟨ta, a1, a2⟩ := a
  obtain ⟨tb, b1, b2⟩ := b
  refine ⟨_, pe_ifExp c1 a1 b1, fun σ0 σ G H S F Q r hw => ?_⟩
  refine VT.then (t := tc) c2 r hw fun x S1 G1 H1 F1 r1 g1 hw1 => ?_
  cases x with
  | true => exact a2 σ0 σ G1 H1 S1 F1 Q r1 (R.wp_mono hw1 (fun y S2 h => OkV.from g1 h fun z => and2 (and3 z).1) fun _ _ _ h => h)
  | false => exact b2 σ0 σ G1 H1 S1 F1 Q r1 (R.wp_mono hw1 (fun y S2 h => OkV.from g1 h fun z => ⟨(and2 (and3 z).1).1, (and3 z).2⟩) fun _ _ _ h => h)
theorem vd_if {gc : Sl → R Bool} {ga gb : Sl → R D} (c : VT p X W ec gc) (a : VD q X W ea ga) (b : VD p' X W eb gb) : VD (p && q && p') X W (.IfExp ec ea eb pos) (gIfE gc ga gb) := by
  obtain ⟨tc, c1, c2⟩ := c
  obtain ⟨ta, a1, a2⟩ := a
  obtain ⟨tb, b1, b2⟩ := b
  refine ⟨_, pe_ifExp c1 a1 b1, fun σ0 σ G H S F Q r hw => ?_⟩
  refine VT.then (t := tc) c2 r hw fun x S1 G1 H1 F1 r1 g1 hw1 => ?_
  cases x with
  | true => exact a2 σ0 σ G1 H1 S1 F1 Q r1 (R.wp_mono hw1 (fun y S2 h => OkD.from g1 h fun z => and2 (and3 z).1) fun _ _ _ h => h)
  | false => exact b2 σ0 σ G1 H1 S1 F1 Q r1 (R.wp_mono hw1 (fun y S2 h => OkD.from g1 h fun z => ⟨(and2 (and3 z).1).1, (and3 z).2⟩) fun _ _ _ h => h)

/-! ### truth -/
def truD : D → Option Bool
  | .non => some false
  | .bl b => some b
  | .int i => some (i != 0)
  | .str y => if y.length ≤ 16777216 then some ((y.length : Int) != 0) else none
  | .lst xs => some (!xs.isEmpty)
  | .tup xs => some (!xs.isEmpty)
  | _ => none
def gTru (g : Sl → R Vl) : Sl → R Bool := fun S => (g S).bind fun x S1 => match truD x.d with | some b => .ok b S1 | none => .stuck
theorem isEmpty_len {α β : Type} {xs : List α} {ys : List β} (h : xs.length = ys.length) : xs.isEmpty = ys.isEmpty := by
  cases xs <;> cases ys <;> first | rfl | (simp at h)
theorem vt_tru {g : Sl → R Vl} (h : VE p X W e g) (he : ∀ whole, isTrue e X.env whole = (do let v ← whole; standAt e.pos; holding [v] (truthy v)) := by intro _; rfl) : VT p X W e (gTru g) := by
  obtain ⟨t, h1, h2⟩ := h
  refine ⟨_, pt_truth h1 he, fun σ0 σ G H S F Q r hw => ?_⟩
  refine VE.then (t := t) h2 r hw fun x S1 v fp G1 H1 F1 r1 g1 z1 hw1 => ?_
  obtain ⟨xb, xk, xd⟩ := x
  cases hd : truD xd with
  | none => simp only [hd] at hw1; exact hw1.elim
  | some b =>
    simp only [hd] at hw1
    refine ⟨b, ?_, hw1 G1 H1 F1 r1 g1⟩
    have z := z1.rv
    cases xd <;> simp only [truD] at hd <;> first | (cases hd; done) | skip
    · cases hd; rw [show v = .non from z.non]; rfl
    · cases hd; rw [show v = .bl _ from z.bl]; rfl
    · cases hd; rw [show v = .int _ from z.int]; rfl
    · split at hd
      · rename_i hl
        cases hd
        rw [show v = .str _ from z.str]
        exact ⟨by rw [sizeLine_eq]; exact hl, rfl⟩
      · cases hd
    · cases hd
      obtain ⟨a, vs, rfl, ha, hl, _⟩ := z.lst r1.inc
      exact .inl ⟨vs, .of ha, by rw [isEmpty_len hl]⟩
    · cases hd
      obtain ⟨a, vs, rfl, ha, hl⟩ := z.tup r1.inc
      exact .inr (.inl ⟨vs, .of ha, by rw [isEmpty_len hl.length]⟩)

/-! ### a name's item, the name read when the index is there -/
def gIxN (i : Nat) (gb : Sl → R D) : Sl → R Vl := fun S => match S[i]? with
  | some ⟨_, some _⟩ => (gb S).bind fun j S2 => (match S2[i]? with
    | some ⟨_, some (k, d)⟩ => (match ixV ⟨true, k, d⟩ j with | some y => .ok y S2 | none => .stuck)
    | _ => .stuck)
  | _ => .stuck
/-- the reading of an item, apart from how its parts come -/
theorem ix_ok {x : Vl} {v u : V} {fp : List Addr} {i : D} {y : Vl} {Q : VK} (r2 : SR σ0 G2 H2 σ S2 F2) (z : Ow G2 H2 x.k x.d v fp) (z2 : Fz G2 i u) (hd : ixV x i = some y)
    (hw2 : ∀ w fq, (∀ H F F', VP H F G2 H2 F' y w fq) → Q w H2) : rIx X.K v u H2 Q := by
  obtain ⟨xb, xk, xd⟩ := x
  unfold ixV at hd
  have zr : Rv G2 H2 xd v := ⟨xk, fp, z⟩
  cases xd <;> cases i <;> first | (simp only at hd; cases hd; done) | skip
  all_goals (simp only [Fz] at z2; subst z2)
  · rename_i s j
    simp only at hd
    split at hd
    · rename_i hs'
      simp only [Option.map_eq_some_iff] at hd
      obtain ⟨c, h1, rfl⟩ := hd
      exact .inr (.inr ⟨s, j, c, zr.str, rfl, by rw [sizeLine_eq]; exact hs', h1, hw2 _ [] fun _ _ _ => .fzn rfl⟩)
    · cases hd
  · rename_i ds j
    simp only [Option.map_eq_some_iff] at hd
    obtain ⟨d, h1, rfl⟩ := hd
    obtain ⟨j', h2, h3⟩ := atI_spec h1
    by_cases hk : xk ≤ 1
    · obtain ⟨a, vs, e, rd, fz⟩ := Rv1.lst (G := G2) (H := H2) ⟨xk, fp, hk, z⟩ r2.inc
      obtain ⟨w, e1, e2⟩ := fz.get h3
      have : elemV ⟨xb, xk, .lst ds⟩ d = .fzn d := by simp [elemV, hk]
      rw [this] at hw2
      exact .inl ⟨a, vs, j, w, e, rfl, .of rd, atI_of fz.length h2 e1, hw2 w [] fun _ _ _ => .fzn e2⟩
    · obtain ⟨k, rfl⟩ : ∃ k, xk = k + 2 := ⟨xk - 2, by omega⟩
      obtain ⟨a, vs, f, e, hh, _, ol⟩ := z
      obtain ⟨w, f', e1, e2, _⟩ := ol.get h3
      refine .inl ⟨a, vs, j, w, e, rfl, .of hh, atI_of ol.length h2 e1, ?_⟩
      by_cases ha : d.atom = true
      · have : elemV ⟨xb, k + 2, .lst ds⟩ d = .fzn d := by simp [elemV, ha]
        rw [this] at hw2
        exact hw2 w [] fun _ _ _ => .fzn (e2.atom ha).1
      · have : elemV ⟨xb, k + 2, .lst ds⟩ d = ⟨true, k + 1, d⟩ := by simp [elemV, ha]
        rw [this] at hw2
        exact hw2 w f' fun _ _ _ => ⟨e2, (fun h => nomatch h), (fun h => nomatch h), (fun h => nomatch h), (fun h => nomatch h)⟩
  · rename_i ds j
    simp only [Option.map_eq_some_iff] at hd
    obtain ⟨d, h1, rfl⟩ := hd
    obtain ⟨j', h2, h3⟩ := atI_spec h1
    obtain ⟨a, vs, e, rd, fz⟩ := zr.tup r2.inc
    obtain ⟨w, e1, e2⟩ := fz.get h3
    exact .inr (.inl ⟨a, vs, j, w, e, rfl, .of rd, atI_of fz.length h2 e1, hw2 w [] fun _ _ _ => .fzn e2⟩)
theorem ve_ixN (i : Nat) {x : Str} {xp : Pos} {gb : Sl → R D} (b : VD q X W eb gb) (hN : X.N[i]? = some x := by rfl) (hv : Vis X.env.scope x := by first | exact Or.inl rfl | exact Or.inr (Or.inl rfl) | exact Or.inr (Or.inr rfl)) (hd : (x == ("__debug__" : Str)) = false := by decide)
    (hcd : (x == ("__classdict__" : Str)) = false := by decide) (hs : PlainIx eb := by intro _ _; rfl) : VE q X W (.Subscript (.Name x xp) eb pos) (gIxN i gb) := by
  obtain ⟨tb, b1, b2⟩ := b
  refine ⟨_, pe_ix ix_seq (pe_var hN hv hd hcd) b1 hs, fun σ0 σ G H S F Q r hw => ?_⟩
  unfold gIxN at hw
  split at hw
  · rename_i pin kd hc
    obtain ⟨k, d⟩ := kd
    obtain ⟨_, h2, _⟩ := r.row i _ hc
    obtain ⟨v, e1, _⟩ := h2 k d rfl
    refine ⟨v, e1, ?_⟩
    refine VD.then (t := tb) b2 r hw fun j S2 u G2 H2 F2 r2 g2 z2 hw2 => ?_
    split at hw2
    · rename_i pin2 k2 d2 hc2
      obtain ⟨_, h4, _⟩ := r2.row i _ hc2
      obtain ⟨v', e2, o2⟩ := h4 k2 d2 rfl
      rw [e1] at e2
      cases e2
      cases hd2 : ixV ⟨true, k2, d2⟩ j with
      | none => rw [hd2] at hw2; exact hw2.elim
      | some y =>
        rw [hd2] at hw2
        exact ix_ok (X := X) r2 o2 z2 hd2 fun w fq vp => hw2 w fq G2 H2 F2 r2 g2 (vp H F F2)
    · exact hw2.elim
  · exact hw.elim
end
end VL

set_option Elab.async false
set_option linter.all false
set_option autoImplicit false
set_option maxRecDepth 100000
namespace VL
open PySem PySem.Spec L2
open PyProof.Rows hiding St

/-! ## statements -/
inductive Out where
  | nx | ct | bk
  | rt (x : Vl)
section
variable (σ0 : St) (G H : Hp) (S : Sl) (F : Fps)
def OkS (D : Ends) (o : Out) (S' : Sl) : Prop := ∀ σ' G' H' F', SR σ0 G' H' σ' S' F' → Gr false G H F S G' H' F' S' → match o with
  | .nx => D.nx σ' H'
  | .ct => D.ct σ' H'
  | .bk => D.bk σ' H'
  | .rt x => ∀ v fp, VP H F G' H' F' x v fp → D.rt v H'
def OkX (W : WX) (c : Addr) (w : Option (Str × D)) (S' : Sl) : Prop := ∀ σ' dd G' H' F', SR σ0 G' H' σ' S' F' → Gr false G H F S G' H' F' S' → ER G' H' w dd → W (.ref c) dd σ' H'
end
def VS (X : Cx) (W : WX) (st : Stmt) (g : Sl → R Out) : Prop := ∃ t, PS X st t ∧ ∀ σ0 σ G H S F D, SR σ0 G H σ S F → (g S).wp (OkS σ0 G H S F D) (OkX σ0 G H S F W) → t D σ H
def VSs (X : Cx) (W : WX) (st : List Stmt) (g : Sl → R Out) : Prop := ∃ t, PSs X st t ∧ ∀ σ0 σ G H S F D, SR σ0 G H σ S F → (g S).wp (OkS σ0 G H S F D) (OkX σ0 G H S F W) → t D σ H
section
variable {X : Cx} {W : WX} {p q p' : Bool} {e ea eb ec : Expr} {es : List Expr} {pos : Pos} {st : Stmt} {sts : List Stmt}
variable {σ0 σ : St} {G H G1 H1 G2 H2 : Hp} {F F1 F2 : Fps} {S S1 S2 : Sl}
theorem OkX.oe {c : Addr} {w : Option (Str × D)} {S' : Sl} (h : OkX σ0 G H S F W c w S') : OkE σ0 σ G H S F W c w S' := fun dd G' H' F' r g er => h σ dd G' H' F' r g er
theorem OkX.from (a : Gr p G H F S G1 H1 F1 S1) {c : Addr} {w : Option (Str × D)} {S' : Sl} (h : OkX σ0 G H S F W c w S') : OkX σ0 G1 H1 S1 F1 W c w S' :=
  fun σ' dd G' H' F' r g er => h σ' dd G' H' F' r (a.off.trans g) er
theorem OkS.from (a : Gr p G H F S G1 H1 F1 S1) {D : Ends} {o : Out} {S' : Sl} (h : OkS σ0 G H S F D o S') : OkS σ0 G1 H1 S1 F1 D o S' := fun σ' G' H' F' r g => by
  have := h σ' G' H' F' r (a.off.trans g)
  cases o with
  | rt x => exact fun v fp z => this v fp (VP.from a z)
  | _ => exact this
/-- an expression first -/
theorem VE.sthen {g : Sl → R Vl} {t : TE} {β : Type} {f : Vl → Sl → R β} {ok : β → Sl → Prop} {Q : VK} (h2 : ∀ σ0 σ G H S F Q, SR σ0 G H σ S F → (g S).wp (OkV p σ0 σ G H S F Q) (OkE σ0 σ G H S F W) → t σ H Q)
    (r : SR σ0 G H σ S F) (hw : ((g S).bind f).wp ok (OkX σ0 G H S F W))
    (k : ∀ x S' v fp G' H' F', SR σ0 G' H' σ S' F' → Gr p G H F S G' H' F' S' → VP H F G' H' F' x v fp → (f x S').wp ok (OkX σ0 G' H' S' F' W) → Q v H') : t σ H Q :=
  h2 σ0 σ G H S F Q r (R.wp_mono (R.wp_bind hw) (fun d S' hx v fp G' H' F' r' g' z => k d S' v fp G' H' F' r' g' z (R.wp_mono hx (fun _ _ h => h) fun c w S' h => h.from g')) fun c w S' h => h.oe)
theorem VD.sthen {g : Sl → R D} {t : TE} {β : Type} {f : D → Sl → R β} {ok : β → Sl → Prop} {Q : VK} (h2 : ∀ σ0 σ G H S F Q, SR σ0 G H σ S F → (g S).wp (OkD p σ0 σ G H S F Q) (OkE σ0 σ G H S F W) → t σ H Q)
    (r : SR σ0 G H σ S F) (hw : ((g S).bind f).wp ok (OkX σ0 G H S F W))
    (k : ∀ d S' v G' H' F', SR σ0 G' H' σ S' F' → Gr p G H F S G' H' F' S' → Fz G' d v → (f d S').wp ok (OkX σ0 G' H' S' F' W) → Q v H') : t σ H Q :=
  h2 σ0 σ G H S F Q r (R.wp_mono (R.wp_bind hw) (fun d S' hx v G' H' F' r' g' z => k d S' v G' H' F' r' g' z (R.wp_mono hx (fun _ _ h => h) fun c w S' h => h.from g')) fun c w S' h => h.oe)
theorem VT.sthen {g : Sl → R Bool} {t : TT} {β : Type} {f : Bool → Sl → R β} {ok : β → Sl → Prop} {Q : Bool → Hp → Prop} (h2 : ∀ σ0 σ G H S F Q, SR σ0 G H σ S F → (g S).wp (OkB p σ0 σ G H S F Q) (OkE σ0 σ G H S F W) → t σ H Q)
    (r : SR σ0 G H σ S F) (hw : ((g S).bind f).wp ok (OkX σ0 G H S F W))
    (k : ∀ b S' G' H' F', SR σ0 G' H' σ S' F' → Gr p G H F S G' H' F' S' → (f b S').wp ok (OkX σ0 G' H' S' F' W) → Q b H') : t σ H Q :=
  h2 σ0 σ G H S F Q r (R.wp_mono (R.wp_bind hw) (fun d S' hx G' H' F' r' g' => k d S' G' H' F' r' g' (R.wp_mono hx (fun _ _ h => h) fun c w S' h => h.from g')) fun c w S' h => h.oe)

/-! ### rows of statements -/
def gNext : Sl → R Out := fun S => .ok .nx S
def gThen (a b : Sl → R Out) : Sl → R Out := fun S => (a S).bind fun o S1 => match o with
  | .nx => b S1
  | .ct => .ok .ct S1
  | .bk => .ok .bk S1
  | .rt x => .ok (.rt x) S1
theorem vss_nil : VSs X W [] gNext := ⟨_, pss_nil, fun σ0 σ G H S F D r hw => hw σ G H F r (.refl r)⟩
theorem vss_one {g : Sl → R Out} (h : VS X W st g) : VSs X W [st] g := by
  obtain ⟨t, h1, h2⟩ := h
  exact ⟨t, pss_one h1, h2⟩
theorem vss_cons {ga gb : Sl → R Out} (a : VS X W st ga) (b : VSs X W sts gb) : VSs X W (st :: sts) (gThen ga gb) := by
  obtain ⟨ta, a1, a2⟩ := a
  obtain ⟨tb, b1, b2⟩ := b
  refine ⟨_, pss_cons a1 b1, fun σ0 σ G H S F D r hw => ?_⟩
  refine a2 σ0 σ G H S F _ r (R.wp_mono (R.wp_bind hw) (fun o S1 ho σ1 G1 H1 F1 r1 g1 => ?_) fun _ _ _ h => h)
  cases o with
  | nx => exact b2 σ0 σ1 G1 H1 S1 F1 D r1 (R.wp_mono ho (fun _ _ h => h.from g1) fun _ _ _ h => h.from g1)
  | ct => exact ho σ1 G1 H1 F1 r1 g1
  | bk => exact ho σ1 G1 H1 F1 r1 g1
  | rt x => exact ho σ1 G1 H1 F1 r1 g1
def gBreak : Sl → R Out := fun S => .ok .bk S
def gCont : Sl → R Out := fun S => .ok .ct S
theorem vs_pass : VS X W (.Pass pos) gNext := ⟨_, ps_pass, fun σ0 σ G H S F D r hw => hw σ G H F r (.refl r)⟩
theorem vs_break : VS X W (.Break pos) gBreak := ⟨_, ps_break, fun σ0 σ G H S F D r hw => hw σ G H F r (.refl r)⟩
theorem vs_cont : VS X W (.Continue pos) gCont := ⟨_, ps_continue, fun σ0 σ G H S F D r hw => hw σ G H F r (.refl r)⟩
theorem vs_doc {x j pos pos'} : VS X W (.Expr (.Constant (.str x) j pos) pos') gNext := ⟨_, ps_doc, fun σ0 σ G H S F D r hw => hw σ G H F r (.refl r)⟩
def gDrop (g : Sl → R Vl) : Sl → R Out := fun S => (g S).bind fun _ S1 => .ok .nx S1
theorem vs_expr {g : Sl → R Vl} (h : VE p X W e g) (hs : swapsWith e none pos.line X.env = pure false := by rfl) : VS X W (.Expr e pos) (gDrop g) := by
  obtain ⟨t, h1, h2⟩ := h
  refine ⟨_, ps_expr h1 hs, fun σ0 σ G H S F D r hw => ?_⟩
  exact VE.sthen (t := t) h2 r hw fun x S1 v fp G1 H1 F1 r1 g1 z1 hw1 => hw1 σ G1 H1 F1 r1 g1.off
def gRet (g : Sl → R Vl) : Sl → R Out := fun S => (g S).bind fun x S1 => if x.b then .stuck else .ok (.rt x) S1
theorem vs_ret {g : Sl → R Vl} (h : VE p X W e g) : VS X W (.Return (some e) pos) (gRet g) := by
  obtain ⟨t, h1, h2⟩ := h
  refine ⟨_, ps_ret h1, fun σ0 σ G H S F D r hw => ?_⟩
  refine VE.sthen (t := t) h2 r hw fun x S1 v fp G1 H1 F1 r1 g1 z1 hw1 => ?_
  split at hw1
  · exact hw1.elim
  · exact hw1 σ G1 H1 F1 r1 g1.off v fp z1
def gRetN : Sl → R Out := fun S => .ok (.rt (.fzn .non)) S
theorem vs_retN : VS X W (.Return none pos) gRetN := ⟨_, ps_retN, fun σ0 σ G H S F D r hw => hw σ G H F r (.refl r) .non [] (.fzn rfl)⟩
def gIfS (c : Sl → R Bool) (a b : Sl → R Out) : Sl → R Out := fun S => (c S).bind fun x S1 => if x then a S1 else b S1
theorem vs_if {c : Expr} {sa sb : List Stmt} {gc : Sl → R Bool} {ga gb : Sl → R Out} (hc : VT p X W c gc) (a : VSs X W sa ga) (b : VSs X W sb gb) : VS X W (.If c sa sb pos) (gIfS gc ga gb) := by
  obtain ⟨tc, c1, c2⟩ := hc
  obtain ⟨ta, a1, a2⟩ := a
  obtain ⟨tb, b1, b2⟩ := b
  refine ⟨_, ps_if c1 a1 b1, fun σ0 σ G H S F D r hw => ?_⟩
  refine VT.sthen (t := tc) c2 r hw fun x S1 G1 H1 F1 r1 g1 hw1 => ?_
  cases x with
  | true => exact a2 σ0 σ G1 H1 S1 F1 D r1 (R.wp_mono hw1 (fun _ _ h => h.from g1) fun _ _ _ h => h)
  | false => exact b2 σ0 σ G1 H1 S1 F1 D r1 (R.wp_mono hw1 (fun _ _ h => h.from g1) fun _ _ _ h => h)

/-! ### assignments -/
def gSet (i : Nat) (g : Sl → R Vl) : Sl → R Out := fun S => (g S).bind fun x S1 => if x.b then .stuck else match S1[i]? with
  | some ⟨false, _⟩ => .ok .nx (S1.put i (some (x.k, x.d)))
  | _ => .stuck
theorem Gr.put {i : Nat} {x : Vl} {v : V} {fp : List Addr} {S' : Sl} (g : Gr p G H F S G1 H1 F1 S1) (z : VP H F G1 H1 F1 x v fp) (hb : x.b = false) : Gr false G H F S G1 H1 (fpPut F1 i fp) S' :=
  ⟨g.up, g.new, g.fr, fun j a h => by
    by_cases hj : j = i
    · simp only [fpPut, if_pos hj] at h; exact z.src hb a h
    · simp only [fpPut, if_neg hj] at h; exact g.src j a h, fun h => nomatch h⟩
theorem vs_set (i : Nat) {x : Str} {pos' : Pos} {g : Sl → R Vl} (h : VE p X W e g) (hN : X.N.Nodup) (hi : X.N[i]? = some x := by rfl) (hx : Loc X.env.scope x := by first | exact Or.inl rfl | exact Or.inr rfl)
    (hs : swapsWith e (some (.Name x pos')) pos.line X.env = pure false := by rfl) (hf : X.fn x = true ∨ X.env.scope.names.lookup x = some .local := by first | exact .inr rfl | exact .inl rfl) : VS X W (.Assign [.Name x pos'] e pos) (gSet i g) := by
  obtain ⟨t, h1, h2⟩ := h
  refine ⟨_, ps_set hN hi hx h1 hs hf, fun σ0 σ G H S F D r hw => ?_⟩
  refine VE.sthen (t := t) h2 r hw fun x S1 v fp G1 H1 F1 r1 g1 z1 hw1 => ?_
  split at hw1
  · exact hw1.elim
  · rename_i hb
    have hb : x.b = false := by simpa using hb
    split at hw1
    · rename_i val hc
      have hl : i < σ.length := by rw [r1.len]; exact (List.getElem?_eq_some_iff.mp hc).1
      refine hw1 _ G1 H1 (fpPut F1 i fp) (r1.put hc (by simp) (fun j hj => List.getElem?_set_ne (Ne.symm hj)) (fun h => nomatch h) (fun k d' e => ?_) (fun e => nomatch e) (z1.nd hb) (fun j _ a ha => z1.dj hb j a ha) (z1.ns hb)) (g1.put z1 hb)
      cases e
      exact ⟨v, by simp [List.getElem?_set_self hl], z1.ow⟩
    · exact hw1.elim
theorem sem_dv {g : Sl → R Vl} {t : TE} (h2 : ∀ σ0 σ G H S F Q, SR σ0 G H σ S F → (g S).wp (OkV p σ0 σ G H S F Q) (OkE σ0 σ G H S F W) → t σ H Q) : ∀ σ0 σ G H S F Q, SR σ0 G H σ S F → (gV (gD g) S).wp (OkV p σ0 σ G H S F Q) (OkE σ0 σ G H S F W) → t σ H Q := fun σ0 σ G H S F Q r hw => by
  have hw2 : ((gD g) S).wp (OkD p σ0 σ G H S F Q) (OkE σ0 σ G H S F W) := R.wp_mono (R.wp_bind hw) (fun d S' hx v G' H' F' r' g' z => hx v [] G' H' F' r' g' (.fzn z)) fun c w S' h => h
  refine h2 σ0 σ G H S F Q r (R.wp_mono (R.wp_bind hw2) (fun x S' hx v fp G' H' F' r' g' z => ?_) fun c w S' h => h)
  cases hb : x.b with
  | true => rw [hb] at hx; exact hx.elim
  | false =>
    rw [hb] at hx
    obtain ⟨G2, r2, g2, z2⟩ := z.freeze r' g' hb
    exact hx v G2 H' F' r2 g2 z2
theorem set_sem {i : Nat} {g : Sl → R Vl} {t : TE} {D : Ends} (h2 : ∀ σ0 σ G H S F Q, SR σ0 G H σ S F → (g S).wp (OkV p σ0 σ G H S F Q) (OkE σ0 σ G H S F W) → t σ H Q) (r : SR σ0 G H σ S F) (hw : (gSet i g S).wp (OkS σ0 G H S F D) (OkX σ0 G H S F W)) : tAsg t (gName i) D σ H := by
  refine VE.sthen (t := t) h2 r hw fun x S1 v fp G1 H1 F1 r1 g1 z1 hw1 => ?_
  split at hw1
  · exact hw1.elim
  · rename_i hb
    have hb : x.b = false := by simpa using hb
    split at hw1
    · rename_i val hc
      have hl : i < σ.length := by rw [r1.len]; exact (List.getElem?_eq_some_iff.mp hc).1
      refine hw1 _ G1 H1 (fpPut F1 i fp) (r1.put hc (by simp) (fun j hj => List.getElem?_set_ne (Ne.symm hj)) (fun h => nomatch h) (fun k d' e => ?_) (fun e => nomatch e) (z1.nd hb) (fun j _ a ha => z1.dj hb j a ha) (z1.ns hb)) (g1.put z1 hb)
      cases e
      exact ⟨v, by simp [List.getElem?_set_self hl], z1.ow⟩
    · exact hw1.elim
/-- x = [..], x a plain local: kept frozen, or owned -/
theorem vs_setLc (fr : Bool) (i : Nat) {x : Str} {pos' pos2 : Pos} {q' : Bool} {elt tg iter : Expr} {ifs : List Expr} {scope : Scope} {own : List (Str × Nat)} {vs' : List Nat} {b pu : Bool} {gi : Sl → R (List D)} {ga : D → Sl → Option Sl} {gt : Sl → R Bool} {ge : Sl → R D}
    (hc : X.calm = true) (hN : X.N.Nodup) (hi : VI p b X W tg iter gi) (ok : BlkOk X.N X.env.scope scope own)
    (hg : ∀ (s : Shared) (H : Hp) (C : Addr) (cl : List (Str × Addr)) (fp : List Addr), VG (X.blk s H scope (compEnvC scope cl C X.env) fp) tg vs' ga)
    (ht : ∀ (s : Shared) (H : Hp) (C : Addr) (cl : List (Str × Addr)) (fp : List Addr), VTs q (X.blk s H scope (compEnvC scope cl C X.env) fp) W0 ifs gt)
    (he : ∀ (s : Shared) (H : Hp) (C : Addr) (cl : List (Str × Addr)) (fp : List Addr), VD q' (X.blk s H scope (compEnvC scope cl C X.env) fp) W0 elt ge)
    (hv : vs'.all (fun v => (own.map (·.2)).contains v) = true) (hpu : pu = (q && q')) (hb : b = true → pu = true)
    (hsw : swapsWith (.ListComp elt [⟨tg, iter, ifs, 0⟩] scope pos2) (some (.Name x pos')) pos.line X.env = pure true := by rfl) (hy : X.N[i]? = some x := by rfl) (hyl : X.env.scope.names.lookup x = some .local := by rfl) (hs : ∀ x, foldedSetIterable iter X.env x = pure x := by intro _; rfl) :
    VS X W (.Assign [.Name x pos'] (.ListComp elt [⟨tg, iter, ifs, 0⟩] scope pos2) pos) (gSet i (cond fr (gV (gD (gLc pu (own.map (·.2)) gi ga gt ge))) (gLc pu (own.map (·.2)) gi ga gt ge))) := by
  obtain ⟨wi, i1, i2⟩ := hi
  refine ⟨_, ps_setLc hc hN hy hyl hsw i1 ok (fun s H C cl fp => (hg s H C cl fp).can) (fun s H C cl fp => (ht s H C cl fp).can) (fun s H C cl fp => (he s H C cl fp).can) hs, fun σ0 σ G H S F D r hw => ?_⟩
  have h2 : ∀ σ0 σ G H S F Q, SR σ0 G H σ S F → (gLc pu (own.map (·.2)) gi ga gt ge S).wp (OkV (p && pu) σ0 σ G H S F Q) (OkE σ0 σ G H S F W) → tLc wi (tVG vs' ga) (tVT q W0 gt) (tVD q' W0 ge) (own.map (·.2)) σ H Q := fun σ0 σ G H S F Q r hw => lc_sem i2 hv hpu hb r hw
  cases fr with
  | true => exact set_sem (sem_dv h2) r hw
  | false => exact set_sem h2 r hw
theorem asg_gr {vs : List Nat} {σ' : St} {S' : Sl} (a : Asg σ σ' F F1 vs) : Gr false G H F S G H F1 S' :=
  ⟨Inc.refl _, fun b hb => .inl hb, fun b o e _ => e, fun j b hb => by
    rcases a.F j with h | ⟨_, h⟩
    · rw [h] at hb; exact .inl ⟨j, hb⟩
    · rw [h] at hb; simp at hb, fun h => nomatch h⟩
def gAsg (ga : D → Sl → Option Sl) (g : Sl → R D) : Sl → R Out := fun S => (g S).bind fun d S1 => match ga d S1 with
  | some S2 => .ok .nx S2
  | none => .stuck
theorem vs_asg {tg : Expr} {vs : List Nat} {ga : D → Sl → Option Sl} {g : Sl → R D} (a : VG X tg vs ga) (h : VD p X W e g) (hs : swapsWithSole [tg] e pos.line X.env = pure false := by rfl) (hw : swappedStores [tg] e X.env = pure none := by rfl)
    (h1 : (assignEach [tg] X.env).map (·.2) = [assign tg X.env] := by rfl) : VS X W (.Assign [tg] e pos) (gAsg ga g) := by
  obtain ⟨t, t1, t2⟩ := h
  obtain ⟨u, u1, u2⟩ := a
  refine ⟨_, ps_asg t1 u1 hs hw h1, fun σ0 σ G H S F D r hw => ?_⟩
  refine VD.sthen (t := t) t2 r hw fun d S1 v G1 H1 F1 r1 g1 z1 hw1 => ?_
  cases hg : ga d S1 with
  | none => rw [hg] at hw1; exact hw1.elim
  | some S2 =>
    rw [hg] at hw1
    exact u2 σ0 σ G1 H1 S1 F1 d v S2 _ r1 z1 hg fun σ2 F2 r2 a2 => hw1 σ2 G1 H1 F2 r2 (g1.off.trans (asg_gr (S := S1) (S' := S2) a2))
/-- a, b = x, y with plain names -/
def gPar (i j : Nat) (g : Sl → R (List D)) : Sl → R Out := fun S => (g S).bind fun ds S1 => match ds with
  | [a, b] => (match gaName i a S1 with
    | some S2 => (match gaName j b S2 with
      | some S3 => .ok .nx S3
      | none => .stuck)
    | none => .stuck)
  | _ => .stuck
theorem vs_par (i j : Nat) {x y : Str} {a b : Expr} {g : Sl → R (List D)} (ha : VA p X W [a, b] g) (hc : X.calm = true) (hN : X.N.Nodup) (hi : X.N[i]? = some x) (hj : X.N[j]? = some y) (hij : i ≠ j)
    (hx : X.env.scope.names.lookup x = some .local) (hy : X.env.scope.names.lookup y = some .local) {st : Stmt} (h : ∀ ta, PA X [a, b] ta → PS X st (tPar i j ta)) : VS X W st (gPar i j g) := by
  obtain ⟨t, t1, t2⟩ := ha
  refine ⟨_, h t t1, fun σ0 σ G H S F D r hw => ?_⟩
  refine t2 σ0 σ G H S F _ r (R.wp_mono (R.wp_bind hw) (fun ds S1 hd vs G1 H1 F1 r1 g1 z1 => ?_) fun c w S' h => h.oe)
  match ds, hd, z1 with
  | [], hd, _ => exact hd.elim
  | [_], hd, _ => exact hd.elim
  | _ :: _ :: _ :: _, hd, _ => exact hd.elim
  | [da, db], hd, z1 =>
    simp only at hd
    cases h1 : gaName i da S1 with
    | none => rw [h1] at hd; exact hd.elim
    | some S2 =>
      rw [h1] at hd
      simp only at hd
      cases h2 : gaName j db S2 with
      | none => rw [h2] at hd; exact hd.elim
      | some S3 =>
        rw [h2] at hd
        simp only [FzL] at z1
        obtain ⟨v, r', rfl, za, w, r'', rfl, zb, rfl⟩ := z1
        obtain ⟨q1, q2⟩ := r1.name za h1
        obtain ⟨q3, q4⟩ := q1.name zb h2
        exact ⟨v, w, rfl, hd _ G1 H1 _ q3 (g1.off.trans (asg_gr (S := S1) (S' := S3) (q2.trans q4)))⟩

/-! ### loops -/
def loopFor (ga : D → Sl → Option Sl) (gb : Sl → R Out) : List D → Sl → R Out
  | [], S => .ok .nx S
  | d :: ds, S => match ga d S with
    | none => .stuck
    | some S1 => (gb S1).bind fun o S2 => match o with
      | .nx => loopFor ga gb ds S2
      | .ct => loopFor ga gb ds S2
      | .bk => .ok .nx S2
      | .rt x => .ok (.rt x) S2
def gFor (gi : Sl → R (List D)) (ga : D → Sl → Option Sl) (gb : Sl → R Out) : Sl → R Out := fun S => (gi S).bind fun xs S1 => loopFor ga gb xs S1
theorem vs_for {tg iter : Expr} {body : List Stmt} {vs : List Nat} {gi : Sl → R (List D)} {ga : D → Sl → Option Sl} {gb : Sl → R Out} (hp : PassesOwn (model X.prog X.w) X.A X.env X.xe) (hc : X.calm = true) (hi : VI p false X W tg iter gi) (hg : VG X tg vs ga) (hb : VSs X W body gb)
    (hs : ∀ x, foldedSetIterable iter X.env x = pure x := by intro _; rfl) : VS X W (.For tg iter body [] pos) (gFor gi ga gb) := by
  obtain ⟨wi, i1, i2⟩ := hi
  obtain ⟨u, u1, u2⟩ := hg
  obtain ⟨tb, b1, b2⟩ := hb
  refine ⟨_, ps_for hp hc i1 u1 b1 hs, fun σ0 σ G H S F D r hw => ?_⟩
  refine i2 σ0 σ G H S F _ r (R.wp_mono (R.wp_bind hw) (fun xs S1 hw1 J G1 H1 F1 r1 g1 ito => ?_) fun c w S' h => h.oe)
  refine ⟨fun i m σ' H' => m = xs.length - i ∧ i ≤ xs.length ∧ ∃ G' F' S', SR σ0 G' H' σ' S' F' ∧ Gr false G H F S G' H' F' S' ∧ Inc G1 G' ∧ (loopFor ga gb (xs.drop i) S').wp (OkS σ0 G H S F D) (OkX σ0 G H S F W), ⟨xs.length, rfl, Nat.zero_le _, G1, F1, S1, r1, g1.off, Inc.refl _, hw1⟩, ?_⟩
  rintro i m σ' H' ⟨rfl, hi, G', F', S', r', g', i', hl⟩
  have it := ito G' H' i' r'.inc (fun h => nomatch h) i
  by_cases hlt : i < xs.length
  · obtain ⟨d, hd⟩ : ∃ d, xs[i]? = some d := ⟨xs[i], by simp [hlt]⟩
    have hdr : xs.drop i = d :: xs.drop (i + 1) := by
      rw [List.drop_eq_getElem_cons hlt]
      rw [List.getElem?_eq_getElem hlt] at hd
      cases hd; rfl
    rw [hdr] at hl
    obtain ⟨go, yl⟩ := it.1 d hd
    refine .inr ⟨go, fun σ' H' => ∃ G' F' S', SR σ0 G' H' σ' S' F' ∧ Gr false G H F S G' H' F' S' ∧ Inc G1 G' ∧ (loopFor ga gb (xs.drop (i + 1)) S').wp (OkS σ0 G H S F D) (OkX σ0 G H S F W), fun σ'' H'' h => ⟨xs.length - (i + 1), by omega, rfl, hlt, h⟩, fun x H2 hy => ?_⟩
    obtain ⟨G2, r2, g2, z2⟩ := fy_step r' (yl x H2 hy)
    simp only [loopFor] at hl
    cases hga : ga d S' with
    | none => rw [hga] at hl; exact hl.elim
    | some Sa =>
      rw [hga] at hl
      refine u2 σ0 σ' G2 H2 S' F' d x Sa _ r2 z2 hga fun σ2 F2 ra asg => ?_
      have ga' : Gr false G H F S G2 H2 F2 Sa := (g'.trans g2.off).off.trans (asg_gr (S := S') (S' := Sa) asg)
      refine b2 σ0 σ2 G2 H2 Sa F2 _ ra (R.wp_mono (R.wp_bind hl) (fun o S3 ho σ3 G3 H3 F3 r3 g3 => ?_) fun _ _ _ h => h.from ga')
      have g4 := ga'.trans g3
      cases o with
      | nx => exact ⟨G3, F3, S3, r3, g4, i'.trans (g2.up.trans g3.up), ho⟩
      | ct => exact ⟨G3, F3, S3, r3, g4, i'.trans (g2.up.trans g3.up), ho⟩
      | bk => exact ho σ3 G3 H3 F3 r3 g4
      | rt x => exact fun v fp z => ho σ3 G3 H3 F3 r3 g4 v fp (VP.from ga' z)
  · have hie : i = xs.length := by omega
    subst hie
    rw [List.drop_length] at hl
    exact .inl ⟨it.2 (Nat.le_refl _), hl σ' G' H' F' r' g'⟩
def loopWhile (gc : Sl → R Bool) (gb : Sl → R Out) : Nat → Sl → R Out
  | 0, _ => .stuck
  | n + 1, S => (gc S).bind fun b S1 => if b then (gb S1).bind fun o S2 => (match o with
      | .nx => loopWhile gc gb n S2
      | .ct => loopWhile gc gb n S2
      | .bk => .ok .nx S2
      | .rt x => .ok (.rt x) S2) else .ok .nx S1
theorem vs_while (n : Sl → Nat) {c : Expr} {body : List Stmt} {gc : Sl → R Bool} {gb : Sl → R Out} (hp : PassesOwn (model X.prog X.w) X.A X.env X.xe) (hc : VT p X W c gc) (hb : VSs X W body gb) : VS X W (.While c body [] pos) (fun S => loopWhile gc gb (n S) S) := by
  obtain ⟨tc, c1, c2⟩ := hc
  obtain ⟨tb, b1, b2⟩ := hb
  refine ⟨_, ps_while hp c1 b1, fun σ0 σ G H S F D r hw => ?_⟩
  refine ⟨fun m σ' H' => ∃ G' F' S', SR σ0 G' H' σ' S' F' ∧ Gr false G H F S G' H' F' S' ∧ (loopWhile gc gb m S').wp (OkS σ0 G H S F D) (OkX σ0 G H S F W), ⟨n S, G, F, S, r, .refl r, hw⟩, ?_⟩
  rintro m σ' H' ⟨G', F', S', r', g', hl⟩
  cases m with
  | zero => exact hl.elim
  | succ m =>
    simp only [loopWhile] at hl
    refine c2 σ0 σ' G' H' S' F' _ r' (R.wp_mono (R.wp_bind hl) (fun b S1 hb G1 H1 F1 r1 g1 => ?_) fun c w S' h => (h.from g').oe)
    have g2 : Gr false G H F S G1 H1 F1 S1 := g'.trans g1.off
    cases b with
    | false => exact hb σ' G1 H1 F1 r1 g2
    | true =>
      simp only [if_true] at hb ⊢
      refine ⟨fun σ' H' => ∃ G' F' S', SR σ0 G' H' σ' S' F' ∧ Gr false G H F S G' H' F' S' ∧ (loopWhile gc gb m S').wp (OkS σ0 G H S F D) (OkX σ0 G H S F W), fun σ'' H'' h => ⟨m, Nat.lt_succ_self m, h⟩, ?_⟩
      refine b2 σ0 σ' G1 H1 S1 F1 _ r1 (R.wp_mono (R.wp_bind hb) (fun o S3 ho σ3 G3 H3 F3 r3 g3 => ?_) fun _ _ _ h => h.from g2)
      have g4 := g2.trans g3
      cases o with
      | nx => exact ⟨G3, F3, S3, r3, g4, ho⟩
      | ct => exact ⟨G3, F3, S3, r3, g4, ho⟩
      | bk => exact ho σ3 G3 H3 F3 r3 g4
      | rt x => exact fun v fp z => ho σ3 G3 H3 F3 r3 g4 v fp (VP.from g2 z)
end
end VL

set_option Elab.async false
set_option linter.all false
set_option autoImplicit false
set_option maxRecDepth 100000
namespace VL
open PySem PySem.Spec L2
open PyProof.Rows hiding St

section
variable {P : D → V → List Addr → Prop}
theorem OwL.append : ∀ {ds es : List D} {vs us : List V} {fp fq : List Addr}, OwL P ds vs fp → OwL P es us fq → OwL P (ds ++ es) (vs ++ us) (fp ++ fq)
  | [], es, vs, us, fp, fq, h, k => by obtain ⟨rfl, rfl⟩ := h; simpa using k
  | d :: ds, es, vs, us, fp, fq, h, k => by
    obtain ⟨v, r, f, g, rfl, rfl, h1, h2⟩ := h
    exact ⟨v, r ++ us, f, g ++ fq, rfl, by simp, h1, OwL.append h2 k⟩
theorem OwL.one {d : D} {v : V} {fp : List Addr} (h : P d v fp) : OwL P [d] [v] fp := ⟨v, [], fp, [], rfl, by simp, h, rfl, rfl⟩
/-- one item put elsewhere -/
theorem OwL.erase : ∀ {ds : List D} {vs : List V} {fp : List Addr} {j : Nat} {d : D}, OwL P ds vs fp → ds[j]? = some d → ∃ v f f', vs[j]? = some v ∧ P d v f ∧ OwL P (ds.eraseIdx j) (vs.eraseIdx j) f' ∧ fp.Perm (f ++ f')
  | [], vs, fp, j, d, h, e => by simp at e
  | d0 :: ds, vs, fp, 0, d, h, e => by
    obtain ⟨v, r, f, g, rfl, rfl, h1, h2⟩ := h
    simp at e; subst e
    exact ⟨v, f, g, rfl, h1, h2, .refl _⟩
  | d0 :: ds, vs, fp, j + 1, d, h, e => by
    obtain ⟨v, r, f, g, rfl, rfl, h1, h2⟩ := h
    obtain ⟨u, f1, f2, e1, e2, e3, e4⟩ := OwL.erase (j := j) h2 (by simpa using e)
    refine ⟨u, f1, f ++ f2, by simpa using e1, e2, ⟨v, _, f, f2, rfl, rfl, h1, e3⟩, ?_⟩
    refine (List.Perm.append_left f e4).trans ?_
    rw [← List.append_assoc, ← List.append_assoc]
    exact List.Perm.append_right f2 List.perm_append_comm
theorem OwL.set {d' : D} {v' : V} {fq : List Addr} (hq : P d' v' fq) : ∀ {ds : List D} {vs : List V} {fp : List Addr} {j : Nat} {d : D}, OwL P ds vs fp → ds[j]? = some d → ∃ v f f' f'', vs[j]? = some v ∧ P d v f ∧ OwL P (ds.set j d') (vs.set j v') f'' ∧ fp.Perm (f ++ f') ∧ f''.Perm (fq ++ f')
  | [], vs, fp, j, d, h, e => by simp at e
  | d0 :: ds, vs, fp, 0, d, h, e => by
    obtain ⟨v, r, f, g, rfl, rfl, h1, h2⟩ := h
    simp at e; subst e
    exact ⟨v, f, g, fq ++ g, rfl, h1, ⟨v', r, fq, g, rfl, rfl, hq, h2⟩, .refl _, .refl _⟩
  | d0 :: ds, vs, fp, j + 1, d, h, e => by
    obtain ⟨v, r, f, g, rfl, rfl, h1, h2⟩ := h
    obtain ⟨u, f1, f2, f3, e1, e2, e3, e4, e5⟩ := OwL.set hq (j := j) h2 (by simpa using e)
    refine ⟨u, f1, f ++ f2, f ++ f3, by simpa using e1, e2, ⟨v, _, f, f3, rfl, rfl, h1, e3⟩, ?_, ?_⟩
    · refine (List.Perm.append_left f e4).trans ?_
      rw [← List.append_assoc, ← List.append_assoc]
      exact List.Perm.append_right f2 List.perm_append_comm
    · refine (List.Perm.append_left f e5).trans ?_
      rw [← List.append_assoc, ← List.append_assoc]
      exact List.Perm.append_right f2 List.perm_append_comm
end
section
variable {X : Cx} {W : WX} {p q p' : Bool} {e ea eb ec : Expr} {es : List Expr} {pos : Pos} {st : Stmt} {sts : List Stmt}
variable {σ0 σ : St} {G H G1 H1 G2 H2 : Hp} {F F1 F2 : Fps} {S S1 S2 : Sl}
/-- what a slot owns is rewritten -/
theorem SR.mut' {i : Nat} {c : Cell} {v : V} {k d k' d'} {f' : List Addr} {H' : Hp} (r : SR σ0 G H σ S F) (hc : S[i]? = some c) (hv : c.val = some (k, d)) (hσ : σ[i]? = some (some v))
    (hH : ∀ b, b ∉ F i → ∀ o, H b = some o → H' b = some o) (ho : Ow G H' k' d' v f') (nd : f'.Nodup) (hf : ∀ a ∈ f', a ∈ F i ∨ (∀ j, a ∉ F j) ∧ G a = none) (ht : ∀ b us, H' b = some (.tup us) → H b = some (.tup us)) :
    SR σ0 G H' σ (S.put i (some (k', d'))) (fpPut F i f') where
  len := by rw [put_length]; exact r.len
  row := fun j cj hj => by
    rw [put_at hc] at hj
    by_cases hji : j = i
    · subst hji
      rw [if_pos rfl] at hj; cases hj
      obtain ⟨h1, _, _⟩ := r.row j c hc
      simp only [fpPut, if_pos]
      exact ⟨h1, fun k1 d1 e => by cases e; exact ⟨v, hσ, ho⟩, fun e => nomatch e⟩
    · rw [if_neg hji] at hj
      obtain ⟨h1, h2, h3⟩ := r.row j cj hj
      simp only [fpPut, if_neg hji]
      refine ⟨h1, fun k1 d1 e => ?_, h3⟩
      obtain ⟨u, e1, e2⟩ := h2 k1 d1 e
      exact ⟨u, e1, e2.keep (Inc.refl _) fun b hb o hbo => hH b (fun h => hji (r.dj j i b hb h)) o hbo⟩
  out := fun j hj => by
    rw [put_length] at hj
    have hi := (List.getElem?_eq_some_iff.mp hc).1
    simp only [fpPut, if_neg (show ¬ j = i by omega)]
    exact r.out j hj
  nd := fun j => by
    by_cases hji : j = i
    · subst hji; simpa [fpPut] using nd
    · simpa [fpPut, hji] using r.nd j
  dj := fun j l a h1 h2 => by
    have off : ∀ j, j ≠ i → a ∈ F j → a ∉ f' := fun j hj h3 h4 => by
      rcases hf a h4 with h5 | ⟨h5, _⟩
      · exact hj (r.dj j i a h3 h5)
      · exact h5 j h3
    by_cases hji : j = i
    · by_cases hli : l = i
      · rw [hji, hli]
      · simp only [fpPut, if_pos hji] at h1
        simp only [fpPut, if_neg hli] at h2
        exact absurd h1 (off l hli h2)
    · simp only [fpPut, if_neg hji] at h1
      by_cases hli : l = i
      · simp only [fpPut, if_pos hli] at h2
        exact absurd h2 (off j hji h1)
      · simp only [fpPut, if_neg hli] at h2
        exact r.dj j l a h1 h2
  fs := fun j a h => by
    by_cases hji : j = i
    · simp only [fpPut, if_pos hji] at h
      rcases hf a h with h5 | ⟨_, h5⟩
      · exact r.fs i a h5
      · exact h5
    · simp only [fpPut, if_neg hji] at h; exact r.fs j a h
  inc := fun b o hb => hH b (fun h => by rw [r.fs i b h] at hb; cases hb) o (r.inc b o hb)
  tp := fun b us e => r.tp b us (ht b us e)
theorem upd_ntup {a : Addr} {o : HO} (ho : ∀ us, o ≠ .tup us := by intro _ z; cases z) : ∀ b us, upd H a o b = some (.tup us) → H b = some (.tup us) := fun b us e => by
  by_cases hb : b = a
  · subst hb; rw [upd_same] at e; exact absurd (Option.some.inj e) (ho us)
  · rw [upd_ne hb] at e; exact e
theorem Gr.mut {i : Nat} {f' : List Addr} {H' : Hp} {S' T' : Sl} (g : Gr p G H F S G1 H1 F1 S1) (hH : ∀ b, b ∉ F1 i → ∀ o, H1 b = some o → H' b = some o) (hf : ∀ a ∈ f', (∃ j, a ∈ F j) ∨ H a = none ∨ a ∈ F1 i) : Gr false G H F S G1 H' (fpPut F1 i f') S' where
  up := g.up
  new := g.new
  fr := fun a o h hn => hH a (fun hi => by
    rcases g.src i a hi with ⟨j, hj⟩ | hz
    · exact hn j hj
    · rw [h] at hz; cases hz) o (g.fr a o h hn)
  src := fun j a h => by
    by_cases hj : j = i
    · simp only [fpPut, if_pos hj] at h
      rcases hf a h with h1 | h1 | h1
      · exact .inl h1
      · exact .inr h1
      · exact g.src i a h1
    · simp only [fpPut, if_neg hj] at h; exact g.src j a h
  pure := fun h => nomatch h
theorem tyL {a : Addr} {vs : List V} (h : H a = some (.lst vs)) : tyV X.K "list" (.ref a) H := .inl ⟨rfl, vs, .of h⟩
/-- the list that a slot owns, as it stands -/
theorem SR.lst {i k : Nat} {pin : Bool} {ds : List D} (r : SR σ0 G H σ S F) (hc : S[i]? = some ⟨pin, some (k + 1, .lst ds)⟩) : ∃ a vs f, σ[i]? = some (some (.ref a)) ∧ H a = some (.lst vs) ∧ F i = a :: f ∧ OwL (Ow G H k) ds vs f := by
  obtain ⟨_, h2, _⟩ := r.row i _ hc
  obtain ⟨v, e1, a, vs, f, rfl, h, e, z⟩ := h2 _ _ rfl
  exact ⟨a, vs, f, e1, h, e, z⟩
/-! ### xs.append(x) -/
def gApd (i : Nat) (g : Sl → R Vl) : Sl → R D := fun S => match S[i]? with
  | some ⟨_, some (_ + 1, .lst _)⟩ => (g S).bind fun x S1 => if x.b then .stuck else (match S1[i]? with
    | some ⟨_, some (k + 1, .lst xs)⟩ => if decide (xs.length < 16777216) && (x.k == k || k == 0 || x.d.atom) then .ok .non (S1.put i (some (k + 1, .lst (xs ++ [x.d])))) else .stuck
    | _ => .stuck)
  | _ => .stuck
theorem vd_append (i : Nat) {x : Str} {xp apos cpos : Pos} {g : Sl → R Vl} (h : VE p X W e g) (hN : X.N[i]? = some x := by rfl) (hv : Vis X.env.scope x := by first | exact Or.inl rfl | exact Or.inr (Or.inl rfl) | exact Or.inr (Or.inr rfl)) (hd : (x == ("__debug__" : Str)) = false := by decide)
    (hcd : (x == ("__classdict__" : Str)) = false := by decide)
    (hbase : attributeBase (.Name x xp) "append" X.env (eval (.Name x xp) X.env) = eval (.Name x xp) X.env := by rfl)
    (hfew : ((backTo cpos (starEach [e] X.env)).all (fun x => !x.1) && (backToKw cpos (keywordEach [] X.env)).all (fun x => x.1.isSome)
      && decide ([e].length + ([] : List Keyword).length + (if ([] : List Keyword).isEmpty then 0 else 1) < 30)) = true := by rfl)
    (hline : (apos.endLine == cpos.line) = true := by rfl) (hs : starEach [e] X.env = (false, eval e X.env) :: starEach [] X.env := by rfl) (hplain : (backTo cpos (starEach [] X.env)).any (·.1) = false := by rfl) :
    VD false X W (.Call (.Attribute (.Name x xp) "append" apos) [e] [] cpos) (gApd i g) := by
  obtain ⟨t, t1, t2⟩ := h
  refine ⟨_, pe_bm PySem.F.plainAttrs_list PySem.F.slot_list_append PySem.F.type_list_append mt_append (pe_var hN hv hd hcd) (pa_cons t1 pa_nil hs) hbase hfew hline hs hplain, fun σ0 σ G H S F Q r hw => ?_⟩
  unfold gApd at hw
  split at hw
  case h_2 => exact hw.elim
  rename_i pin k0 ds0 hc
  obtain ⟨a, vs0, f0, hσ, hH0, _, _⟩ := r.lst hc
  refine ⟨_, hσ, tyL hH0, ?_⟩
  refine VE.then (t := t) t2 r hw fun y S1 v fp G1 H1 F1 r1 g1 z1 hw1 => ?_
  obtain ⟨yb, yk, yd⟩ := y
  cases yb with
  | true => exact hw1.elim
  | false =>
    simp only [Bool.false_eq_true, if_false] at hw1
    split at hw1
    case h_2 => exact hw1.elim
    rename_i pin1 k xs hc1
    split at hw1
    case isFalse => exact hw1.elim
    rename_i hcond
    simp only [Bool.and_eq_true, Bool.or_eq_true, decide_eq_true_eq, beq_iff_eq] at hcond
    obtain ⟨hlen, hk⟩ := hcond
    -- the item as the list wants it
    obtain ⟨G2, fq, r2, g2, zo, hnd, hsrc, hdj, hns⟩ : ∃ G2 fq, SR σ0 G2 H1 σ S1 F1 ∧ Gr p G H F S G2 H1 F1 S1 ∧ Ow G2 H1 k yd v fq ∧ fq.Nodup ∧ (∀ b ∈ fq, (∃ j, b ∈ F j) ∨ H b = none) ∧ (∀ j, ∀ b ∈ fq, b ∉ F1 j) ∧ ∀ b ∈ fq, G2 b = none := by
      rcases hk with (hk | hk) | hk
      · have hk : yk = k := hk
        subst hk
        exact ⟨G1, fp, r1, g1, z1.ow, z1.nd rfl, z1.src rfl, z1.dj rfl, z1.ns rfl⟩
      · subst hk
        obtain ⟨G2, r2, g2, z2⟩ := z1.freeze r1 g1 rfl
        exact ⟨G2, [], r2, g2, ⟨z2, rfl⟩, .nil, by simp, by simp, by simp⟩
      · have := z1.ow.atom hk
        refine ⟨G1, [], r1, g1, ?_, .nil, by simp, by simp, by simp⟩
        cases k with
        | zero => exact ⟨this.1, rfl⟩
        | succ k => cases yd <;> first | exact ⟨this.1, rfl⟩ | cases hk
    obtain ⟨a', vs, f, hσ', hH, hF, ol⟩ := r2.lst hc1
    rw [hσ] at hσ'
    cases hσ'
    refine ⟨a, vs, v, rfl, rfl, hH, ?_, ?_⟩
    · rw [ol.length]
      rw [sizeLine_eq]; exact hlen
    have hnda := r2.nd i
    rw [hF] at hnda
    have haf : a ∉ f := (List.nodup_cons.mp hnda).1
    have hafq : a ∉ fq := fun h => hdj i a h (by rw [hF]; simp)
    have hu : ∀ b, b ∉ F1 i → ∀ o, H1 b = some o → upd H1 a (.lst (vs ++ [v])) b = some o := fun b hb o ho => by
      rw [upd_ne fun e : b = a => hb (by rw [e, hF]; simp)]; exact ho
    refine hw1 .non G2 _ _ (r2.mut' (f' := a :: (f ++ fq)) hc1 rfl hσ hu ⟨a, vs ++ [v], f ++ fq, rfl, upd_same, rfl, ?_⟩ ?_ ?_ upd_ntup) (g2.mut (T' := S1) hu ?_) rfl
    · refine OwL.append (ol.mono fun d u fd hd z => z.keep (Inc.refl _) fun b hb o ho => ?_) (OwL.one (zo.keep (Inc.refl _) fun b hb o ho => ?_))
      · rw [upd_ne fun e : b = a => haf (e ▸ hd b hb)]; exact ho
      · rw [upd_ne fun e : b = a => hafq (e ▸ hb)]; exact ho
    · rw [List.nodup_cons, List.nodup_append]
      refine ⟨by simp [haf, hafq], (List.nodup_cons.mp hnda).2, hnd, fun b hb b' hb' e => ?_⟩
      subst e
      exact hdj i b hb' (by rw [hF]; simp [hb])
    · intro b hb
      rw [List.mem_cons, List.mem_append] at hb
      rcases hb with hb | hb | hb
      · exact .inl (by rw [hF, hb]; simp)
      · exact .inl (by rw [hF]; simp [hb])
      · exact .inr ⟨fun j => hdj j b hb, hns b hb⟩
    · intro b hb
      rw [List.mem_cons, List.mem_append] at hb
      rcases hb with hb | hb | hb
      · exact .inr (.inr (by rw [hF, hb]; simp))
      · exact .inr (.inr (by rw [hF]; simp [hb]))
      · rcases hsrc b hb with h | h
        · exact .inl h
        · exact .inr (.inl h)
/-! ### xs.pop(), xs.pop(j) -/
def gPop (i : Nat) : Sl → R Vl := fun S => match S[i]? with
  | some ⟨_, some (k + 1, .lst xs)⟩ => (match xs[xs.length - 1]? with
    | some d => .ok ⟨false, k, d⟩ (S.put i (some (k + 1, .lst xs.dropLast)))
    | none => .stuck)
  | _ => .stuck
theorem dropLast_erase {α : Type} (xs : List α) : xs.dropLast = xs.eraseIdx (xs.length - 1) := by
  rw [List.eraseIdx_eq_take_drop_succ, List.dropLast_eq_take]
  by_cases h : xs = []
  · subst h; rfl
  · have := List.length_pos_iff.mpr h
    rw [show xs.length - 1 + 1 = xs.length by omega, List.drop_length, List.append_nil]
/-- an item leaves its list -/
theorem pop_ok {i k j : Nat} {pin : Bool} {xs : List D} {d : D} {Q : VK} {a : Addr} (r : SR σ0 G1 H1 σ S1 F1) (g : Gr p G H F S G1 H1 F1 S1) (hc : S1[i]? = some ⟨pin, some (k + 1, .lst xs)⟩) (hσ : σ[i]? = some (some (.ref a))) (hd : xs[j]? = some d)
    (hq : OkV false σ0 σ G H S F Q ⟨false, k, d⟩ (S1.put i (some (k + 1, .lst (xs.eraseIdx j))))) :
    ∃ vs v, H1 a = some (.lst vs) ∧ vs.length = xs.length ∧ vs[j]? = some v ∧ Q v (upd H1 a (.lst (vs.eraseIdx j))) := by
  obtain ⟨a', vs, f, hσ', hH, hF, ol⟩ := r.lst hc
  rw [hσ] at hσ'
  cases hσ'
  obtain ⟨v, f1, f2, e1, e2, e3, e4⟩ := ol.erase hd
  refine ⟨vs, v, hH, ol.length, e1, ?_⟩
  have hnda := r.nd i
  rw [hF] at hnda
  obtain ⟨haf, hnf⟩ := List.nodup_cons.mp hnda
  have hnf' := e4.nodup_iff.mp hnf
  obtain ⟨n1, n2, n3⟩ := List.nodup_append.mp hnf'
  have in1 : ∀ b ∈ f1, b ∈ f := fun b hb => e4.mem_iff.mpr (List.mem_append_left _ hb)
  have in2 : ∀ b ∈ f2, b ∈ f := fun b hb => e4.mem_iff.mpr (List.mem_append_right _ hb)
  have hu : ∀ b, b ∉ F1 i → ∀ o, H1 b = some o → upd H1 a (.lst (vs.eraseIdx j)) b = some o := fun b hb o ho => by
    rw [upd_ne fun e : b = a => hb (by rw [e, hF]; simp)]; exact ho
  have keep : ∀ {d u fd}, (∀ b ∈ fd, b ∈ f) → Ow G1 H1 k d u fd → Ow G1 (upd H1 a (.lst (vs.eraseIdx j))) k d u fd := fun {d u fd} hin z => z.keep (Inc.refl _) fun b hb o ho => by
    rw [upd_ne fun e : b = a => haf (e ▸ hin b hb)]; exact ho
  refine hq v f1 G1 _ (fpPut F1 i (a :: f2)) (r.mut' hc rfl hσ hu ⟨a, vs.eraseIdx j, f2, rfl, upd_same, rfl, e3.mono fun d u fd hin z => keep (fun b hb => in2 b (hin b hb)) z⟩ (List.nodup_cons.mpr ⟨fun h => haf (in2 a h), n2⟩) ?_ upd_ntup) (g.mut (T' := S1) hu ?_)
    ⟨keep in1 e2, fun _ => n1, fun _ b hb => g.src i b (by rw [hF]; exact List.mem_cons_of_mem _ (in1 b hb)), fun _ l b hb hl => ?_, fun _ b hb => r.fs i b (by rw [hF]; exact List.mem_cons_of_mem _ (in1 b hb))⟩
  · intro b hb
    rcases List.mem_cons.mp hb with hb | hb
    · exact .inl (by rw [hF, hb]; simp)
    · exact .inl (by rw [hF]; exact List.mem_cons_of_mem _ (in2 b hb))
  · intro b hb
    rcases List.mem_cons.mp hb with hb | hb
    · exact .inr (.inr (by rw [hF, hb]; simp))
    · exact .inr (.inr (by rw [hF]; exact List.mem_cons_of_mem _ (in2 b hb)))
  · have hbF : b ∈ F1 i := by rw [hF]; exact List.mem_cons_of_mem _ (in1 b hb)
    by_cases hli : l = i
    · simp only [fpPut, if_pos hli] at hl
      rcases List.mem_cons.mp hl with hl | hl
      · exact haf (hl ▸ in1 b hb)
      · exact n3 b hb b hl rfl
    · simp only [fpPut, if_neg hli] at hl
      exact hli (r.dj l i b hl hbF)
theorem ve_pop (i : Nat) {x : Str} {xp apos cpos : Pos} (hN : X.N[i]? = some x := by rfl) (hv : Vis X.env.scope x := by first | exact Or.inl rfl | exact Or.inr (Or.inl rfl) | exact Or.inr (Or.inr rfl)) (hd : (x == ("__debug__" : Str)) = false := by decide)
    (hcd : (x == ("__classdict__" : Str)) = false := by decide)
    (hbase : attributeBase (.Name x xp) "pop" X.env (eval (.Name x xp) X.env) = eval (.Name x xp) X.env := by rfl) (hline : (apos.endLine == cpos.line) = true := by rfl) : VE false X W (.Call (.Attribute (.Name x xp) "pop" apos) [] [] cpos) (gPop i) := by
  refine ⟨_, pe_bm0 PySem.F.plainAttrs_list PySem.F.slot_list_pop PySem.F.type_list_pop mt_pop (pe_var hN hv hd hcd) hbase hline, fun σ0 σ G H S F Q r hw => ?_⟩
  unfold gPop at hw
  split at hw
  case h_2 => exact hw.elim
  rename_i pin k xs hc
  split at hw
  case h_2 => exact hw.elim
  rename_i d hdd
  obtain ⟨a, vs0, f0, hσ, hH0, _, ol⟩ := r.lst hc
  rw [dropLast_erase] at hw
  obtain ⟨vs, v, h1, h2, h3, h4⟩ := pop_ok (p := true) r (.refl r) hc hσ hdd hw
  refine ⟨_, hσ, tyL h1, a, vs, v, rfl, rfl, h1, by rw [h2]; exact h3, ?_⟩
  rw [dropLast_erase, h2]
  exact h4
def gPopAt (i : Nat) (g : Sl → R D) : Sl → R Vl := fun S => match S[i]? with
  | some ⟨_, some (_ + 1, .lst _)⟩ => (g S).bind fun y S1 => (match S1[i]?, y with
    | some ⟨_, some (k + 1, .lst xs)⟩, .int n => if decide (-(2 ^ 63) ≤ n ∧ n < 2 ^ 63) then (match seqIndex? n xs.length with
      | some j => (match xs[j]? with
        | some d => .ok ⟨false, k, d⟩ (S1.put i (some (k + 1, .lst (xs.eraseIdx j))))
        | none => .stuck)
      | none => .stuck) else .stuck
    | _, _ => .stuck)
  | _ => .stuck
theorem ve_popAt (i : Nat) {x : Str} {xp apos cpos : Pos} {g : Sl → R D} (h : VD p X W e g) (hN : X.N[i]? = some x := by rfl) (hv : Vis X.env.scope x := by first | exact Or.inl rfl | exact Or.inr (Or.inl rfl) | exact Or.inr (Or.inr rfl)) (hd : (x == ("__debug__" : Str)) = false := by decide)
    (hcd : (x == ("__classdict__" : Str)) = false := by decide)
    (hbase : attributeBase (.Name x xp) "pop" X.env (eval (.Name x xp) X.env) = eval (.Name x xp) X.env := by rfl)
    (hfew : ((backTo cpos (starEach [e] X.env)).all (fun x => !x.1) && (backToKw cpos (keywordEach [] X.env)).all (fun x => x.1.isSome)
      && decide ([e].length + ([] : List Keyword).length + (if ([] : List Keyword).isEmpty then 0 else 1) < 30)) = true := by rfl)
    (hline : (apos.endLine == cpos.line) = true := by rfl) (hs : starEach [e] X.env = (false, eval e X.env) :: starEach [] X.env := by rfl) (hplain : (backTo cpos (starEach [] X.env)).any (·.1) = false := by rfl) :
    VE false X W (.Call (.Attribute (.Name x xp) "pop" apos) [e] [] cpos) (gPopAt i g) := by
  obtain ⟨t, t1, t2⟩ := h
  refine ⟨_, pe_bm PySem.F.plainAttrs_list PySem.F.slot_list_pop PySem.F.type_list_pop mt_popAt (pe_var hN hv hd hcd) (pa_cons t1 pa_nil hs) hbase hfew hline hs hplain, fun σ0 σ G H S F Q r hw => ?_⟩
  unfold gPopAt at hw
  split at hw
  case h_2 => exact hw.elim
  rename_i pin k0 ds0 hc
  obtain ⟨a, vs0, f0, hσ, hH0, _, _⟩ := r.lst hc
  refine ⟨_, hσ, tyL hH0, ?_⟩
  refine VD.then (t := t) t2 r hw fun y S1 v G1 H1 F1 r1 g1 z1 hw1 => ?_
  split at hw1
  case h_2 => exact hw1.elim
  rename_i pin1 k xs n hc1
  split at hw1
  case isFalse => exact hw1.elim
  rename_i hn
  obtain ⟨n1, n2⟩ := of_decide_eq_true hn
  split at hw1
  case h_2 => exact hw1.elim
  rename_i j hj
  split at hw1
  case h_2 => exact hw1.elim
  rename_i d hdd
  obtain ⟨vs, u, h1, h2, h3, h4⟩ := pop_ok r1 g1 hc1 hσ hdd hw1
  simp only [Fz] at z1
  subst z1
  exact ⟨a, vs, n, j, u, rfl, rfl, h1, n1, n2, by rw [h2]; exact hj, h3, h4⟩
/-! ### xs[j] = x -/
def gSetIx (i : Nat) (gx : Sl → R D) (gj : Sl → R D) : Sl → R Out := fun S => (gx S).bind fun d S1 => match S1[i]? with
  | some ⟨_, some (_ + 1, .lst _)⟩ => (gj S1).bind fun y S2 => (match S2[i]?, y with
    | some ⟨_, some (k + 1, .lst xs)⟩, .int n => if k == 0 || d.atom then (match ixN xs.length n with
      | some j => .ok .nx (S2.put i (some (k + 1, .lst (xs.set j d))))
      | none => .stuck) else .stuck
    | _, _ => .stuck)
  | _ => .stuck
theorem ixN_lt {n : Nat} {i : Int} {j : Nat} (h : ixN n i = some j) : j < n := (ixN_seq h).2.1
theorem Ow.ofFz {k : Nat} {d : D} {v : V} (z : Fz G d v) (h : k = 0 ∨ d.atom = true) : Ow G H k d v [] := by
  cases k with
  | zero => exact ⟨z, rfl⟩
  | succ k =>
    rcases h with h | h
    · cases h
    · cases d <;> first | exact ⟨z, rfl⟩ | cases h
theorem vs_setIx (i : Nat) {x : Str} {ej : Expr} {xp spos : Pos} {gx : Sl → R D} {gj : Sl → R D} (h : VD p X W e gx) (hj : VD q X W ej gj) (hN : X.N[i]? = some x := by rfl) (hv : Vis X.env.scope x := by first | exact Or.inl rfl | exact Or.inr (Or.inl rfl) | exact Or.inr (Or.inr rfl)) (hd : (x == ("__debug__" : Str)) = false := by decide)
    (hcd : (x == ("__classdict__" : Str)) = false := by decide)
    (hsv : ∀ v, assign (.Subscript (.Name x xp) ej spos) X.env v = (do
      let ov ← holding [v] (eval (.Name x xp) X.env)
      let iv ← holding [v, ov] (eval ej X.env)
      standAt spos
      holding [v, ov, iv] (setItem ov iv v)
      release [v, ov, iv] []) := by intro _; rfl)
    (hs : swapsWithSole [.Subscript (.Name x xp) ej spos] e pos.line X.env = pure false := by rfl) (hw : swappedStores [.Subscript (.Name x xp) ej spos] e X.env = pure none := by rfl)
    (h1 : (assignEach [.Subscript (.Name x xp) ej spos] X.env).map (·.2) = [assign (.Subscript (.Name x xp) ej spos) X.env] := by rfl) :
    VS X W (.Assign [.Subscript (.Name x xp) ej spos] e pos) (gSetIx i gx gj) := by
  obtain ⟨t, t1, t2⟩ := h
  obtain ⟨u, u1, u2⟩ := hj
  refine ⟨_, ps_asg t1 (pg_sub (pe_var hN hv hd hcd) u1 set_list hsv) hs hw h1, fun σ0 σ G H S F Ed r hw => ?_⟩
  refine VD.sthen (t := t) t2 r hw fun d S1 v G1 H1 F1 r1 g1 z1 hw1 => ?_
  split at hw1
  case h_2 => exact hw1.elim
  rename_i pin k0 ds0 hc
  obtain ⟨a, vs0, f0, hσ, hH0, _, _⟩ := r1.lst hc
  refine ⟨_, hσ, ?_⟩
  refine VD.sthen (t := u) u2 r1 hw1 fun y S2 w G2 H2 F2 r2 g2 z2 hw2 => ?_
  split at hw2
  case h_2 => exact hw2.elim
  rename_i pin1 k xs n hc1
  split at hw2
  case isFalse => exact hw2.elim
  rename_i hk
  split at hw2
  case h_2 => exact hw2.elim
  rename_i j hj
  simp only [Fz] at z2
  subst z2
  obtain ⟨a', vs, f, hσ', hH, hF, ol⟩ := r2.lst hc1
  rw [hσ] at hσ'
  cases hσ'
  have zo : Ow G2 H2 k d v [] := Ow.ofFz (z1.inc g2.up) (by simpa using hk)
  refine ⟨a, vs, n, j, rfl, rfl, hH, by rw [ol.length]; exact hj, ?_⟩
  have hnda := r2.nd i
  rw [hF] at hnda
  obtain ⟨haf, hnf⟩ := List.nodup_cons.mp hnda
  have hu : ∀ b, b ∉ F2 i → ∀ o, H2 b = some o → upd H2 a (.lst (vs.set j v)) b = some o := fun b hb o ho => by
    rw [upd_ne fun e : b = a => hb (by rw [e, hF]; simp)]; exact ho
  have hjl := ixN_lt hj
  obtain ⟨v0, f1, f2, f3, e1, e2, e3, e4, e5⟩ := OwL.set (P := Ow G2 H2 k) (d' := d) (v' := v) (fq := []) zo (j := j) (d := xs[j]) ol (by simp [hjl])
  rw [List.nil_append] at e5
  have in3 : ∀ b ∈ f3, b ∈ f := fun b hb => e4.mem_iff.mpr (List.mem_append_right _ (e5.mem_iff.mp hb))
  have nf3 : f3.Nodup := e5.nodup_iff.mpr (List.nodup_append.mp (e4.nodup_iff.mp hnf)).2.1
  refine hw2 σ G2 _ (fpPut F2 i (a :: f3)) (r2.mut' hc1 rfl hσ hu ⟨a, vs.set j v, f3, rfl, upd_same, rfl, e3.mono fun d' u fd hin z => z.keep (Inc.refl _) fun b hb o ho => ?_⟩ (List.nodup_cons.mpr ⟨fun h => haf (in3 a h), nf3⟩) ?_ upd_ntup) ((g1.trans g2).mut (T' := S1) hu ?_)
  · rw [upd_ne fun e : b = a => haf (e ▸ in3 b (hin b hb))]; exact ho
  · intro b hb
    rcases List.mem_cons.mp hb with hb | hb
    · exact .inl (by rw [hF, hb]; simp)
    · exact .inl (by rw [hF]; exact List.mem_cons_of_mem _ (in3 b hb))
  · intro b hb
    rcases List.mem_cons.mp hb with hb | hb
    · exact .inr (.inr (by rw [hF, hb]; simp))
    · exact .inr (.inr (by rw [hF]; exact List.mem_cons_of_mem _ (in3 b hb)))
end
end VL

set_option Elab.async false
set_option linter.all false
set_option autoImplicit false
set_option maxRecDepth 100000
namespace VL
open PySem PySem.Spec L2
open PyProof.Rows hiding St

/-! ## calls of own functions -/
inductive Ar where
  | v (d : D)
  | io (i : Nat)
def idxIo : List Ar → Nat → Option Nat
  | [], _ => none
  | .io i :: as, j => if i = j then some 0 else (idxIo as j).map (· + 1)
  | .v _ :: as, j => (idxIo as j).map (· + 1)
def okIo : List Ar → Bool
  | [] => true
  | .io i :: as => (idxIo as i).isNone && okIo as
  | .v _ :: as => okIo as
theorem idxIo_at : ∀ {as : List Ar} {j i : Nat}, idxIo as j = some i → as[i]? = some (.io j)
  | [], j, i, h => by cases h
  | .io k :: as, j, i, h => by
    simp only [idxIo] at h
    split at h
    · rename_i e; subst e; cases h; rfl
    · obtain ⟨n, h1, rfl⟩ := Option.map_eq_some_iff.mp h
      simpa using idxIo_at h1
  | .v _ :: as, j, i, h => by
    obtain ⟨n, h1, rfl⟩ := Option.map_eq_some_iff.mp h
    simpa using idxIo_at h1
theorem idxIo_of : ∀ {as : List Ar} {j i : Nat}, okIo as = true → as[i]? = some (.io j) → idxIo as j = some i
  | [], j, i, _, h => by simp at h
  | .io k :: as, j, 0, o, h => by
    simp at h; subst h; simp [idxIo]
  | .io k :: as, j, i + 1, o, h => by
    simp only [okIo, Bool.and_eq_true] at o
    have h' : as[i]? = some (.io j) := by simpa using h
    have q := idxIo_of o.2 h'
    simp only [idxIo]
    split
    · rename_i e; subst e
      rw [q] at o; simp at o
    · rw [q]; rfl
  | .v _ :: as, j, 0, o, h => by simp at h
  | .v _ :: as, j, i + 1, o, h => by
    have h' : as[i]? = some (.io j) := by simpa using h
    simp only [idxIo]
    rw [idxIo_of (by simpa [okIo] using o) h']; rfl
def argSl : List Ar → Sl → Option Sl
  | [], _ => some []
  | .v d :: as, S => (argSl as S).map (⟨false, some (0, d)⟩ :: ·)
  | .io i :: as, S => match S[i]? with
    | some ⟨_, some kd⟩ => (argSl as S).map (⟨true, some kd⟩ :: ·)
    | _ => none
theorem argSl_at : ∀ {as : List Ar} {S T : Sl}, argSl as S = some T → T.length = as.length ∧ ∀ (i : Nat) (c : Cell), T[i]? = some c → (∃ d, as[i]? = some (.v d) ∧ c = ⟨false, some (0, d)⟩) ∨ ∃ j pin kd, as[i]? = some (.io j) ∧ S[j]? = some ⟨pin, some kd⟩ ∧ c = ⟨true, some kd⟩
  | [], S, T, h => by cases h; exact ⟨rfl, fun i c h => by simp at h⟩
  | .v d :: as, S, T, h => by
    obtain ⟨T', h1, rfl⟩ := Option.map_eq_some_iff.mp h
    obtain ⟨l, g⟩ := argSl_at h1
    refine ⟨by simp [l], fun i c hc => ?_⟩
    cases i with
    | zero => simp at hc; exact .inl ⟨d, rfl, hc.symm⟩
    | succ i => simpa using g i c (by simpa using hc)
  | .io k :: as, S, T, h => by
    simp only [argSl] at h
    split at h
    · rename_i pin kd hk
      obtain ⟨T', h1, rfl⟩ := Option.map_eq_some_iff.mp h
      obtain ⟨l, g⟩ := argSl_at h1
      refine ⟨by simp [l], fun i c hc => ?_⟩
      cases i with
      | zero => simp at hc; exact .inr ⟨k, pin, kd, rfl, hk, hc.symm⟩
      | succ i => simpa using g i c (by simpa using hc)
    · cases h
def backFrom (as : List Ar) (T : Sl) : Nat → Sl → Sl
  | _, [] => []
  | j, c :: cs => (match idxIo as j with
    | some i => (match T[i]? with
      | some c' => ⟨c.pin, c'.val⟩
      | none => c)
    | none => c) :: backFrom as T (j + 1) cs
def backSl (as : List Ar) (T S : Sl) : Sl := backFrom as T 0 S
theorem backFrom_get (as : List Ar) (T : Sl) : ∀ (S : Sl) (n j : Nat), (backFrom as T n S)[j]? = S[j]?.map fun c => match idxIo as (n + j) with
    | some i => (match T[i]? with
      | some c' => ⟨c.pin, c'.val⟩
      | none => c)
    | none => c
  | [], n, j => by simp [backFrom]
  | c :: cs, n, 0 => by simp [backFrom]
  | c :: cs, n, j + 1 => by
    simp only [backFrom, List.getElem?_cons_succ]
    rw [backFrom_get as T cs (n + 1) j, show n + 1 + j = n + (j + 1) by omega]
theorem backFrom_len (as : List Ar) (T : Sl) : ∀ (S : Sl) (n : Nat), (backFrom as T n S).length = S.length
  | [], n => rfl
  | c :: cs, n => by simp [backFrom, backFrom_len as T cs (n + 1)]
structure ArOk (σ : St) (G : Hp) (as : List Ar) (vs : List V) : Prop where
  len : vs.length = as.length
  v : ∀ (i : Nat) (d : D), as[i]? = some (.v d) → ∃ v, vs[i]? = some v ∧ Fz G d v
  io : ∀ (i j : Nat), as[i]? = some (.io j) → ∃ v, vs[i]? = some v ∧ σ[j]? = some (some v)
theorem ArOk.inc {σ : St} {G G' : Hp} {as : List Ar} {vs : List V} (m : Inc G G') (h : ArOk σ G as vs) : ArOk σ G' as vs := ⟨h.len, fun i d e => let ⟨v, a, b⟩ := h.v i d e; ⟨v, a, b.inc m⟩, h.io⟩
section
variable {X : Cx} {W : WX} {p q p' : Bool} {e ea eb ec : Expr} {es : List Expr} {pos : Pos}
variable {σ0 σ : St} {G H G1 H1 G2 H2 : Hp} {F F1 F2 : Fps} {S S1 S2 : Sl}
def OkR (p : Bool) (σ0 σ : St) (G H : Hp) (S : Sl) (F : Fps) (Q : List V → Hp → Prop) (as : List Ar) (S' : Sl) : Prop := ∀ vs G' H' F', SR σ0 G' H' σ S' F' → Gr p G H F S G' H' F' S' → ArOk σ G' as vs → Q vs H'
def VAr (p : Bool) (X : Cx) (W : WX) (es : List Expr) (g : Sl → R (List Ar)) : Prop := ∃ t, PA X es t ∧ ∀ σ0 σ G H S F Q, SR σ0 G H σ S F → (g S).wp (OkR p σ0 σ G H S F Q) (OkE σ0 σ G H S F W) → t σ H Q
def gArN : Sl → R (List Ar) := fun S => .ok [] S
def gArV (g : Sl → R D) (r : Sl → R (List Ar)) : Sl → R (List Ar) := fun S => (g S).bind fun d S1 => (r S1).bind fun as S2 => .ok (.v d :: as) S2
def gArIo (i : Nat) (r : Sl → R (List Ar)) : Sl → R (List Ar) := fun S => match S[i]? with
  | some ⟨_, some _⟩ => (r S).bind fun as S2 => .ok (.io i :: as) S2
  | _ => .stuck
theorem var_nil : VAr true X W [] gArN := ⟨_, pa_nil, fun σ0 σ G H S F Q r hw => hw [] G H F r (.refl r) ⟨rfl, fun i d h => by simp at h, fun i d h => by simp at h⟩⟩
theorem VAr.then {g : Sl → R (List Ar)} {t : TA} {β : Type} {f : List Ar → Sl → R β} {ok : β → Sl → Prop} {Q : List V → Hp → Prop} (h2 : ∀ σ0 σ G H S F Q, SR σ0 G H σ S F → (g S).wp (OkR p σ0 σ G H S F Q) (OkE σ0 σ G H S F W) → t σ H Q)
    (r : SR σ0 G H σ S F) (hw : ((g S).bind f).wp ok (OkE σ0 σ G H S F W))
    (k : ∀ as S' vs G' H' F', SR σ0 G' H' σ S' F' → Gr p G H F S G' H' F' S' → ArOk σ G' as vs → (f as S').wp ok (OkE σ0 σ G' H' S' F' W) → Q vs H') : t σ H Q :=
  h2 σ0 σ G H S F Q r (R.wp_mono (R.wp_bind hw) (fun d S' hx v G' H' F' r' g' z => k d S' v G' H' F' r' g' z (R.wp_mono hx (fun _ _ h => h) fun c w S' h => h.from g')) fun c w S' h => h)
theorem var_v {g : Sl → R D} {gr : Sl → R (List Ar)} (h : VD p X W e g) (hr : VAr q X W es gr) (hs : starEach (e :: es) X.env = (false, eval e X.env) :: starEach es X.env := by rfl) : VAr (p && q) X W (e :: es) (gArV g gr) := by
  obtain ⟨t, a1, a2⟩ := h
  obtain ⟨u, b1, b2⟩ := hr
  refine ⟨_, pa_cons a1 b1 hs, fun σ0 σ G H S F Q r hw => ?_⟩
  refine VD.then (t := t) a2 r hw fun x S1 v G1 H1 F1 r1 g1 z1 hw1 => ?_
  refine VAr.then (t := u) b2 r1 hw1 fun as S2 vs G2 H2 F2 r2 g2 z2 hw2 => ?_
  refine hw2 (v :: vs) G2 H2 F2 r2 (g1.trans g2) ⟨by simp [z2.len], fun i d h => ?_, fun i j h => ?_⟩
  · cases i with
    | zero => simp at h; subst h; exact ⟨v, rfl, z1.inc g2.up⟩
    | succ i => simpa using z2.v i d (by simpa using h)
  · cases i with
    | zero => simp at h
    | succ i => simpa using z2.io i j (by simpa using h)
theorem var_io (i : Nat) {x : Str} {xp : Pos} {gr : Sl → R (List Ar)} (hr : VAr q X W es gr) (hN : X.N[i]? = some x := by rfl) (hv : Vis X.env.scope x := by first | exact Or.inl rfl | exact Or.inr (Or.inl rfl) | exact Or.inr (Or.inr rfl)) (hd : (x == ("__debug__" : Str)) = false := by decide)
    (hcd : (x == ("__classdict__" : Str)) = false := by decide) (hs : starEach (.Name x xp :: es) X.env = (false, eval (.Name x xp) X.env) :: starEach es X.env := by rfl) : VAr q X W (.Name x xp :: es) (gArIo i gr) := by
  obtain ⟨u, b1, b2⟩ := hr
  refine ⟨_, pa_cons (pe_var hN hv hd hcd) b1 hs, fun σ0 σ G H S F Q r hw => ?_⟩
  unfold gArIo at hw
  split at hw
  case h_2 => exact hw.elim
  rename_i pin kd hc
  obtain ⟨k, d⟩ := kd
  obtain ⟨_, h2, _⟩ := r.row i _ hc
  obtain ⟨v, e1, _⟩ := h2 k d rfl
  refine ⟨v, e1, ?_⟩
  refine VAr.then (t := u) b2 r hw fun as S2 vs G2 H2 F2 r2 g2 z2 hw2 => ?_
  refine hw2 (v :: vs) G2 H2 F2 r2 g2 ⟨by simp [z2.len], fun n d h => ?_, fun n j h => ?_⟩
  · cases n with
    | zero => simp at h
    | succ n => simpa using z2.v n d (by simpa using h)
  · cases n with
    | zero => simp at h; subst h; exact ⟨v, rfl, e1⟩
    | succ n => simpa using z2.io n j (by simpa using h)

/-! ### what a def promises -/
def SpF (n : Nat) (f : Sl → R Vl) : Sp := fun vs H Q E => vs.length = n ∧ ∃ G T F, SR (vs.map some) G H (vs.map some) T F ∧ (f T).wp
  (fun x T' => ∀ v fp G' H' F', SR (vs.map some) G' H' (vs.map some) T' F' → Gr false G H F T G' H' F' T' → VP H F G' H' F' x v fp → Q v H')
  (fun c w T' => ∀ dd G' H' F', SR (vs.map some) G' H' (vs.map some) T' F' → Gr false G H F T G' H' F' T' → ER G' H' w dd → E (.ref c) dd H')
def gCall (f : Sl → R Vl) (ga : Sl → R (List Ar)) : Sl → R Vl := fun S => (ga S).bind fun as S1 => if okIo as then (match argSl as S1 with
  | none => .stuck
  | some T => (match f T with
    | .stuck => .stuck
    | .ok x T' => .ok x (backSl as T' S1)
    | .err c w T' => .err c w (backSl as T' S1))) else .stuck
def argF (as : List Ar) (F : Fps) : Fps := fun i => match as[i]? with
  | some (.io j) => F j
  | _ => []
def backF (as : List Ar) (F' F : Fps) : Fps := fun j => match idxIo as j with
  | some i => F' i
  | none => F j
theorem SR.args {as : List Ar} {vs : List V} {T : Sl} (r : SR σ0 G H σ S F) (a : ArOk σ G as vs) (ok : okIo as = true) (hT : argSl as S = some T) : SR (vs.map some) G H (vs.map some) T (argF as F) := by
  obtain ⟨tl, tg⟩ := argSl_at hT
  have sub : ∀ {i b}, b ∈ argF as F i → ∃ j, as[i]? = some (.io j) ∧ b ∈ F j := fun {i b} h => by
    unfold argF at h
    split at h
    · rename_i j e; exact ⟨j, e, h⟩
    · simp at h
  refine ⟨by rw [List.length_map, a.len, tl], fun i c hc => ⟨fun _ => rfl, fun k d e => ?_, fun e => ?_⟩, fun i hi => ?_, fun i => ?_, fun i j b h1 h2 => ?_, fun i b h => ?_, r.inc, r.tp⟩
  · rcases tg i c hc with ⟨d', h1, rfl⟩ | ⟨j, pin, kd, h1, h2, rfl⟩
    · cases e
      obtain ⟨v, e1, e2⟩ := a.v i _ h1
      exact ⟨v, by simp [e1], e2, by simp [argF, h1]⟩
    · simp only at e
      cases e
      obtain ⟨v, e1, e2⟩ := a.io i _ h1
      obtain ⟨_, h4, _⟩ := r.row j _ h2
      obtain ⟨v', e3, e4⟩ := h4 _ _ rfl
      rw [e2] at e3
      cases e3
      exact ⟨v, by simp [e1], by simpa [argF, h1] using e4⟩
  · rcases tg i c hc with ⟨d', h1, rfl⟩ | ⟨j, pin, kd, h1, h2, rfl⟩
    · cases e
    · cases e
  · unfold argF
    rw [List.getElem?_eq_none (by omega)]
  · unfold argF
    split
    · exact r.nd _
    · exact .nil
  · obtain ⟨k, e1, b1⟩ := sub h1
    obtain ⟨l, e2, b2⟩ := sub h2
    have := r.dj k l b b1 b2
    subst this
    have q1 := idxIo_of ok e1
    rw [idxIo_of ok e2] at q1
    cases q1; rfl
  · obtain ⟨k, e1, b1⟩ := sub h
    exact r.fs k b b1
theorem argF_sub {as : List Ar} {i : Nat} {b : Addr} (h : b ∈ argF as F i) : ∃ j, as[i]? = some (.io j) ∧ b ∈ F j := by
  unfold argF at h
  split at h
  · rename_i j e; exact ⟨j, e, h⟩
  · simp at h
theorem SR.back {as : List Ar} {vs : List V} {T T' : Sl} {F' : Fps} (r : SR σ0 G H σ S F) (a : ArOk σ G as vs) (ok : okIo as = true) (hT : argSl as S = some T) (r' : SR (vs.map some) G1 H1 (vs.map some) T' F') (g : Gr false G H (argF as F) T G1 H1 F' T') :
    SR σ0 G1 H1 σ (backSl as T' S) (backF as F' F) ∧ Gr false G H F S G1 H1 (backF as F' F) (backSl as T' S) := by
  obtain ⟨tl, tg⟩ := argSl_at hT
  have tl' : T'.length = as.length := by rw [← r'.len, List.length_map, a.len]
  have off : ∀ {j b}, idxIo as j = none → b ∈ F j → ∀ i, b ∉ argF as F i := fun {j b} hj hb i h => by
    obtain ⟨k, e1, b1⟩ := argF_sub h
    have := r.dj j k b hb b1
    subst this
    rw [idxIo_of ok e1] at hj; cases hj
  have mix : ∀ {i j b}, b ∈ F' i → idxIo as j = none → b ∈ F j → False := fun {i j b} h1 h2 h3 => by
    rcases g.src i b h1 with ⟨k, hk⟩ | hn
    · exact off h2 h3 k hk
    · obtain ⟨o, ho⟩ := r.dom h3
      rw [ho] at hn; cases hn
  refine ⟨⟨?_, fun j c hc => ?_, fun j hj => ?_, fun j => ?_, fun j l b h1 h2 => ?_, fun j b h => ?_, r'.inc, r'.tp⟩, g.up, fun b hb => ?_, fun b o hb hf => ?_, fun j b h => ?_, fun h => nomatch h⟩
  · unfold backSl; rw [backFrom_len]; exact r.len
  · unfold backSl at hc
    rw [backFrom_get, Nat.zero_add] at hc
    cases hs : S[j]? with
    | none => rw [hs] at hc; cases hc
    | some c0 =>
      rw [hs] at hc
      simp only [Option.map_some] at hc
      obtain ⟨h1, h2, h3⟩ := r.row j c0 hs
      cases hi : idxIo as j with
      | none =>
        rw [hi] at hc
        cases hc
        simp only [backF, hi]
        refine ⟨h1, fun k d e => ?_, h3⟩
        obtain ⟨v, e1, e2⟩ := h2 k d e
        exact ⟨v, e1, e2.keep g.up fun b hb o ho => g.fr b o ho (off hi hb)⟩
      | some i =>
        rw [hi] at hc
        have hio := idxIo_at hi
        have hil : i < T'.length := by rw [tl']; exact (List.getElem?_eq_some_iff.mp hio).1
        simp only [List.getElem?_eq_getElem hil] at hc
        cases hc
        obtain ⟨v, e1, e2⟩ := a.io i j hio
        obtain ⟨_, q2, q3⟩ := r'.row i T'[i] (by simp [hil])
        simp only [backF, hi]
        refine ⟨h1, fun k d e => ?_, q3⟩
        obtain ⟨u, e3, e4⟩ := q2 k d e
        rw [List.getElem?_map, e1] at e3
        cases e3
        exact ⟨v, e2, e4⟩
  · have hl : S.length ≤ j := by unfold backSl at hj; rw [backFrom_len] at hj; exact hj
    unfold backF
    cases hi : idxIo as j with
    | none => exact r.out j hl
    | some i =>
      obtain ⟨v, e1, e2⟩ := a.io i j (idxIo_at hi)
      have := (List.getElem?_eq_some_iff.mp e2).1
      rw [r.len] at this
      omega
  · unfold backF
    split
    · exact r'.nd _
    · exact r.nd j
  · unfold backF at h1 h2
    cases hi : idxIo as j with
    | none =>
      rw [hi] at h1
      cases hk : idxIo as l with
      | none => rw [hk] at h2; exact r.dj j l b h1 h2
      | some k => rw [hk] at h2; exact (mix h2 hi h1).elim
    | some i =>
      rw [hi] at h1
      cases hk : idxIo as l with
      | none => rw [hk] at h2; exact (mix h1 hk h2).elim
      | some k =>
        rw [hk] at h2
        have := r'.dj i k b h1 h2
        subst this
        have e1 := idxIo_at hi
        rw [idxIo_at hk] at e1
        cases e1; rfl
  · unfold backF at h
    cases hi : idxIo as j with
    | some i => rw [hi] at h; exact r'.fs i b h
    | none =>
      rw [hi] at h
      obtain ⟨o, ho⟩ := r.dom h
      exact g.keepG ho (off hi h) (r.fs j b h)
  · rcases g.new b hb with h | ⟨i, h⟩ | h
    · exact .inl h
    · obtain ⟨k, _, b1⟩ := argF_sub h
      exact .inr (.inl ⟨k, b1⟩)
    · exact .inr (.inr h)
  · exact g.fr b o hb fun i hi => by
      obtain ⟨k, _, b1⟩ := argF_sub hi
      exact hf k b1
  · unfold backF at h
    cases hi : idxIo as j with
    | none => rw [hi] at h; exact .inl ⟨j, h⟩
    | some i =>
      rw [hi] at h
      rcases g.src i b h with ⟨k, hk⟩ | hn
      · obtain ⟨l, _, b1⟩ := argF_sub hk
        exact .inl ⟨l, b1⟩
      · exact .inr hn
theorem VP.back {as : List Ar} {vs : List V} {T T' : Sl} {F' : Fps} {x : Vl} {v : V} {fp : List Addr} (r : SR σ0 G H σ S F) (ok : okIo as = true) (g : Gr false G H (argF as F) T G1 H1 F' T') (z : VP H (argF as F) G1 H1 F' x v fp) : VP H F G1 H1 (backF as F' F) x v fp :=
  ⟨z.ow, z.nd, fun hb b h => by
    rcases z.src hb b h with ⟨k, hk⟩ | hn
    · obtain ⟨l, _, b1⟩ := argF_sub hk
      exact .inl ⟨l, b1⟩
    · exact .inr hn, (fun hb j b h hf => by
    unfold backF at hf
    cases hi : idxIo as j with
    | some i => rw [hi] at hf; exact z.dj hb i b h hf
    | none =>
      rw [hi] at hf
      rcases z.src hb b h with ⟨k, hk⟩ | hn
      · obtain ⟨l, e1, b1⟩ := argF_sub hk
        have := r.dj j l b hf b1
        subst this
        rw [idxIo_of ok e1] at hi; cases hi
      · obtain ⟨o, ho⟩ := r.dom hf
        rw [ho] at hn; cases hn), z.ns⟩
theorem call_sp {as : List Ar} {vs : List V} {n : Nat} {f : Sl → R Vl} {Q : VK} (r : SR σ0 G1 H1 σ S1 F1) (g : Gr p G H F S G1 H1 F1 S1) (a : ArOk σ G1 as vs) (hn : as.length = n)
    (hw : (if okIo as then (match argSl as S1 with
      | none => R.stuck
      | some T => (match f T with
        | .stuck => .stuck
        | .ok x T' => .ok x (backSl as T' S1)
        | .err c w T' => .err c w (backSl as T' S1))) else .stuck).wp (OkV false σ0 σ G H S F Q) (OkE σ0 σ G1 H1 S1 F1 W)) : SpF n f vs H1 Q (WE W σ) := by
  split at hw
  case isFalse => exact hw.elim
  rename_i ok
  split at hw
  case h_1 => exact hw.elim
  rename_i T hT
  refine ⟨by rw [a.len, hn], G1, T, argF as F1, r.args a ok hT, ?_⟩
  cases hf : f T with
  | stuck => rw [hf] at hw; exact hw.elim
  | ok x T' =>
    rw [hf] at hw
    intro v fp G2 H2 F2 r2 g2 z2
    obtain ⟨r3, g3⟩ := r.back a ok hT r2 g2
    exact hw v fp G2 H2 _ r3 ((g.off).trans g3) (VP.from g (VP.back (vs := vs) r ok g2 z2))
  | err c w T' =>
    rw [hf] at hw
    intro dd G2 H2 F2 r2 g2 er
    obtain ⟨r3, g3⟩ := r.back a ok hT r2 g2
    exact hw dd G2 H2 _ r3 g3 er
theorem ve_call {x : Str} {xp : Pos} {k n : Nat} {f : Addr} {fd : FuncData} {ps : List Str} {fs : Sl → R Vl} {ga : Sl → R (List Ar)} (Fn : FnOk X.prog X.w X.K X.mg X.base (L2.CX X.prog X.w) k f fd ps (SpF n fs)) (tk : Takes X W) (hr : Room k X.A) (hg : Gl X x) (hm : X.mg x = some (.ref f)) (hk : PySem.W.keepIn X.K (.ref f) = true) (hb : Binds X.K fd ps [])
    (ha : VAr p X W (e :: es) ga) (hn : (e :: es).length = n) (hl : ∀ S as S', ga S = .ok as S' → as.length = n) (hdb : (x == ("__debug__" : Str)) = false := by decide) (he : starEach (e :: es) X.env = (false, eval e X.env) :: starEach es X.env := by rfl) (hpl : (backTo pos (starEach es X.env)).any (·.1) = false := by rfl) :
    VE false X W (.Call (.Name x xp) (e :: es) [] pos) (gCall fs ga) := by
  obtain ⟨t, t1, t2⟩ := ha
  refine ⟨_, pe_callS Fn hr hg hm hk hb (E := WE W) (fun σ => passAt tk σ) t1 hdb he hpl, fun σ0 σ G H S F Q r hw => ?_⟩
  unfold gCall at hw
  cases hga : ga S with
  | stuck => rw [hga] at hw; exact hw.elim
  | err c w S' =>
    rw [hga] at hw
    exact t2 σ0 σ G H S F _ r (by rw [hga]; exact hw)
  | ok as S1 =>
    rw [hga] at hw
    refine t2 σ0 σ G H S F _ r ?_
    rw [hga]
    intro vs G1 H1 F1 r1 g1 a
    exact call_sp (W := W) r1 g1 a (hl S as S1 hga) (R.wp_mono hw (fun _ _ h => h) fun c w S' h => h.from g1)

/-! ### a def -/
def keepN (n : Nat) (S : Sl) : Sl := (S.take n).map fun c => if c.pin then c else ⟨false, none⟩
def fnSem (n m : Nat) (gb : Sl → R Out) : Sl → R Vl := fun T => match gb (T ++ List.replicate m ⟨false, none⟩) with
  | .stuck => .stuck
  | .ok (.rt x) S' => if n ≤ S'.length then .ok x (keepN n S') else .stuck
  | .ok .nx S' => if n ≤ S'.length then .ok (.fzn .non) (keepN n S') else .stuck
  | .ok _ _ => .stuck
  | .err c w S' => if n ≤ S'.length then .err c w (keepN n S') else .stuck
def keepF (n : Nat) (S : Sl) (F : Fps) : Fps := fun i => match S[i]? with
  | some ⟨true, _⟩ => if i < n then F i else []
  | _ => []
theorem keepF_sub {n : Nat} {i : Nat} {b : Addr} (h : b ∈ keepF n S F i) : b ∈ F i := by
  unfold keepF at h
  split at h
  · split at h
    · exact h
    · simp at h
  · simp at h
theorem SR.start {N : List Str} {vs : List V} {T : Sl} (r : SR (vs.map some) G H (vs.map some) T F) (hN : vs.length ≤ N.length) : SR (L2.start N vs) G H (L2.start N vs) (T ++ List.replicate (N.length - vs.length) ⟨false, none⟩) F := by
  have hl : T.length = vs.length := by rw [← r.len, List.length_map]
  refine ⟨by simp [L2.start, hl], fun i c hc => ⟨fun _ => rfl, fun k d e => ?_, fun e => ?_⟩, fun i hi => r.out i (by simp at hi; omega), r.nd, r.dj, r.fs, r.inc, r.tp⟩
  · by_cases hi : i < T.length
    · rw [List.getElem?_append_left hi] at hc
      obtain ⟨_, h2, _⟩ := r.row i c hc
      obtain ⟨v, e1, e2⟩ := h2 k d e
      exact ⟨v, by unfold L2.start; rw [List.getElem?_append_left (by simp; omega)]; exact e1, e2⟩
    · rw [List.getElem?_append_right (by omega), List.getElem?_replicate] at hc
      split at hc
      · cases hc; cases e
      · cases hc
  · by_cases hi : i < T.length
    · rw [List.getElem?_append_left hi] at hc
      exact (r.row i c hc).2.2 e
    · exact r.out i (by omega)
theorem SR.keepN {n : Nat} {N : List Str} {vs : List V} (r : SR (L2.start N vs) G H σ S F) (hn : vs.length = n) (hl : n ≤ S.length) : SR (vs.map some) G H (vs.map some) (keepN n S) (keepF n S F) := by
  refine ⟨by simp [VL.keepN, hn]; omega, fun i c hc => ⟨fun _ => rfl, fun k d e => ?_, fun e => ?_⟩, fun i hi => ?_, fun i => ?_, fun i j b h1 h2 => r.dj i j b (keepF_sub h1) (keepF_sub h2), fun i b h => r.fs i b (keepF_sub h), r.inc, r.tp⟩
  · unfold VL.keepN at hc
    rw [List.getElem?_map, List.getElem?_take] at hc
    split at hc
    · rename_i hi
      cases hs : S[i]? with
      | none => rw [hs] at hc; cases hc
      | some c0 =>
        rw [hs] at hc
        simp only [Option.map_some] at hc
        obtain ⟨h1, h2, h3⟩ := r.row i c0 hs
        obtain ⟨pin, val⟩ := c0
        cases pin with
        | false => simp at hc; subst hc; cases e
        | true =>
          simp at hc
          subst hc
          obtain ⟨v, e1, e2⟩ := h2 k d e
          rw [h1 rfl] at e1
          refine ⟨v, ?_, by simpa [keepF, hs, hi] using e2⟩
          unfold L2.start at e1
          rw [List.getElem?_append_left (by simp; omega)] at e1
          exact e1
    · cases hc
  · unfold VL.keepN at hc
    rw [List.getElem?_map, List.getElem?_take] at hc
    split at hc
    · rename_i hi
      cases hs : S[i]? with
      | none => rw [hs] at hc; cases hc
      | some c0 =>
        rw [hs] at hc
        simp only [Option.map_some] at hc
        obtain ⟨pin, val⟩ := c0
        cases pin with
        | false => simp [keepF, hs]
        | true =>
          simp at hc
          subst hc
          have := (r.row i _ hs).2.2 e
          simp [keepF, hs, this]
    · cases hc
  · have : n ≤ i := by simp [VL.keepN] at hi; omega
    unfold keepF
    split
    · rw [if_neg (by omega)]
    · rfl
  · unfold keepF
    split
    · split
      · exact r.nd i
      · exact .nil
    · exact .nil
end
section
variable {P : Program} {w : World} {K : PySem.W.Frag} {mg : Str → Option Value} {base : Heap}
theorem fn_ok {x qual : Str} {st : Stmt} {f : Addr} {fd : FuncData} {N ps : List Str} {k : Nat} {gb : Sl → R Out} (Fu : Fun K x qual st f fd) (Sc : FnScope N ps (defScope st)) (hNl : ps.length ≤ N.length)
    (hb : ∀ (cdv : Value) (A : Around) (outer : List Env) (s : Shared) (H : Hp) (E : XK), Room k (A.deeper (envOfC qual (defScope st) s.heap.objs.size f cdv)) →
      VSs (cxOf (L2.CX P w) P w K mg base N qual (defScope st) f cdv A outer s H E) (fun cls d _ H => E cls d H) (defBody st) gb) :
    FnOk P w K mg base (L2.CX P w) (k + 1) f fd ps (SpF ps.length (fnSem ps.length (N.length - ps.length) gb)) := by
  refine Fu.okX Sc (fun vs H Q E h => h.1) fun cdv A outer s H vs Q E hr hsp => ?_
  obtain ⟨t, t1, t2⟩ := hb cdv A outer s H E hr
  refine ⟨t, t1, ?_⟩
  obtain ⟨hn, G, T, F, r, hw⟩ := hsp
  have rs := r.start (N := N) (by omega)
  rw [hn] at rs
  refine t2 (start N vs) (start N vs) G H _ F _ rs ?_
  have gk : ∀ {G' H' : Hp} {S' : Sl} {F' : Fps}, Gr false G H F (T ++ List.replicate (N.length - ps.length) ⟨false, none⟩) G' H' F' S' → Gr false G H F T G' H' (keepF ps.length S' F') (keepN ps.length S') := fun g =>
    ⟨g.up, g.new, g.fr, fun i b h => g.src i b (keepF_sub h), fun h => nomatch h⟩
  have vk : ∀ {G' H' : Hp} {S' : Sl} {F' : Fps} {x : Vl} {v : V} {fp : List Addr}, VP H F G' H' F' x v fp → VP H F G' H' (keepF ps.length S' F') x v fp := fun z =>
    ⟨z.ow, z.nd, z.src, fun hb i b h hf => z.dj hb i b h (keepF_sub hf), z.ns⟩
  unfold fnSem at hw
  cases hg : gb (T ++ List.replicate (N.length - ps.length) ⟨false, none⟩) with
  | stuck => rw [hg] at hw; exact hw.elim
  | err c w' S' =>
    rw [hg] at hw
    simp only at hw
    split at hw
    case isFalse => exact hw.elim
    rename_i hl
    exact fun σ' dd G' H' F' r' g' er => hw dd G' H' _ (r'.keepN hn hl) (gk g') er
  | ok o S' =>
    rw [hg] at hw
    cases o with
    | ct => exact hw.elim
    | bk => exact hw.elim
    | nx =>
      simp only at hw
      split at hw
      case isFalse => exact hw.elim
      rename_i hl
      exact fun σ' G' H' F' r' g' => hw .non [] G' H' _ (r'.keepN hn hl) (gk g') (.fzn rfl)
    | rt x =>
      simp only at hw
      split at hw
      case isFalse => exact hw.elim
      rename_i hl
      exact fun σ' G' H' F' r' g' v fp z => hw v fp G' H' _ (r'.keepN hn hl) (gk g') (vk z)
theorem vtakes {N : List Str} {qual : Str} {scope : Scope} {f : Addr} {cd : Value} {A : Around} {outer : List Env} {s : Shared} {H : Hp} {E : XK} : Takes (cxOf (L2.CX P w) P w K mg base N qual scope f cd A outer s H E) (fun cls d _ H => E cls d H) :=
  takes_of rfl rfl rfl rfl
theorem vpasses {N : List Str} {qual : Str} {scope : Scope} {f : Addr} {cd : Value} {A : Around} {outer : List Env} {s : Shared} {H : Hp} {E : XK} : PassesOwn (model P w) (cxOf (L2.CX P w) P w K mg base N qual scope f cd A outer s H E).A (cxOf (L2.CX P w) P w K mg base N qual scope f cd A outer s H E).env (cxOf (L2.CX P w) P w K mg base N qual scope f cd A outer s H E).xe :=
  passes_of (X := cxOf (L2.CX P w) P w K mg base N qual scope f cd A outer s H E) rfl
end
end VL

set_option Elab.async false
set_option linter.all false
set_option autoImplicit false
set_option maxRecDepth 100000
/-! sorted of tuples, the empty one among them -/
namespace VL
open PySem PySem.Spec L2
open PyProof.Rows hiding St
open PySem.W PySem.Calls PySem.SeqAt

section
variable {prog : Program} {w : World} {A : Around} {E : Value → Shared → Prop} {s : Shared}
theorem call_tuple_lt {Q : Value → Shared → Prop} {l b : Addr} {items items2 : Array Value} {e r : Nat → Bool} (hl : s.heap.IsTuple l items) (hb : s.heap.IsTuple b items2)
    (he : ∀ j (h1 : j < items.size) (h2 : j < items2.size), EqAt A.in1 s items[j] items2[j] (e j)) (hr : ∀ j (h1 : j < items.size) (h2 : j < items2.size), e j = false → RcLt A.in1 s items[j] items2[j] (r j))
    (h : Q (.bool (firstLt e r (decide (items.size < items2.size)) (List.range (min items.size items2.size)))) s) : wpAny (model prog w) A (call (.builtin "tuple.__lt__") [.ref l, .ref b]) Q E s := by
  obtain ⟨⟨cls, dd, data, sl⟩, ho, hc, n, hd⟩ := id hl
  obtain ⟨⟨cls2, dd2, data2, sl2⟩, ho2, hc2, n2, hd2⟩ := id hb
  simp only at hc hd hc2 hd2
  subst hc hd hc2 hd2
  exact call_meets PySem.F.slot_tuple_lt ⟨_, ho, rfl⟩ PySem.F.entry_tuple_lt (PySem.F.args_tuple_lt_2 _ _) (PySem.SeqAt.tuple_ltAt l b items items2 n n2 dd dd2 sl sl2 e r) ⟨ho, ho2, he, hr, h⟩
theorem oneLt_tup {xs ys : List PyData} {a b : Value} {as bs : List Addr} {Q : Bool → Shared → Prop} (ra : Reads s.heap a (.tuple xs) as) (rb : Reads s.heap b (.tuple ys) bs) (hal : alikeAll xs ys = true)
    (hu : A.units + min (PyData.tuple xs).depth (PyData.tuple ys).depth < cLine) (hq : Q (dataLt (.tuple xs) (.tuple ys)) s) : wpAny (model prog w) A (oneLt' true a b) Q E s := by
  cases ra with
  | @tuple l o vs n _ as₁ h1 h2 h3 h4 =>
    cases rb with
    | @tuple l' o' vs' n' _ bs₁ k1 k2 k3 k4 =>
      have n1 : vs.size = xs.length := by simpa using ReadsAll.length _ _ _ h4
      have n2 : vs'.size = ys.length := by simpa using ReadsAll.length _ _ _ k4
      rw [dataLt_tuple, ← firstLt_toks xs ys hal, ← n1, ← n2] at hq
      rw [oneLt'_eq]
      simp only [if_true]
      refine wpAny_bind (wpAny_cRoomFor (room_here hu) ?_)
      refine wpAny_bind (wpAny_callSpecialIfBound?_slot (T := "tuple") ⟨_, h1, h2⟩ PySem.F.slot_tuple_lt (call_tuple_lt (e := pairEq xs ys) (r := fun j => dataLt (xs.getD j .none) (ys.getD j .none)) ⟨_, h1, h2, _, h3⟩ ⟨_, k1, k2, _, k3⟩ (fun j j1 j2 => ?_) (fun j j1 j2 hj => ?_) ?_))
      · have := eqAt_alikeAll xs ys A.in1 s vs.toList vs'.toList _ _ h4 k4 hal (room_in hu) j (by simpa using j1) (by simpa using j2)
        simpa using this
      · have := rcLt_alikeAll xs ys A.in1 s vs.toList vs'.toList _ _ h4 k4 hal (room_in hu) j (by simpa using j1) (by simpa using j2) hj
        simpa using this
      · exact wpAny_truthy_bool hq
theorem firsts_tups : ∀ {vs : List Value} {ds : List PyData}, EachIs (fun v d => ∃ as, Reads s.heap v d as) vs ds → (∀ d, d ∈ ds → ∃ xs, d = .tuple xs) → ∃ fs : List (Option Value), fs.length = vs.length ∧
    (fs.all (·.isSome) = true → ∀ d, d ∈ ds → ∃ x r, d = .tuple (x :: r)) ∧ ∀ (E : Value → Shared → Prop) (Q : List (Option Value) → Shared → Prop), Q fs s → wpAny (model prog w) A (vs.mapM firstOfTuple') Q E s
  | _, _, .nil, _ => ⟨[], rfl, fun _ d hd => absurd hd (by simp), fun E Q h => by rw [List.mapM_nil]; exact wpAny_pure h⟩
  | v :: vs, _, .cons (b := d) ⟨as, r⟩ t, ht => by
    obtain ⟨fs, h1, h2, h3⟩ := firsts_tups t fun d hd => ht d (List.mem_cons_of_mem _ hd)
    obtain ⟨xs, rfl⟩ := ht d (List.mem_cons_self ..)
    cases r with
    | @tuple a o its n _ _ ho hc hd hr =>
      refine ⟨its[0]? :: fs, by simp [h1], fun ha d hdm => ?_, fun E Q h => ?_⟩
      · simp only [List.all_cons, Bool.and_eq_true] at ha
        rcases List.mem_cons.mp hdm with rfl | hdm
        · cases xs with
          | nil =>
            have : its.size = 0 := by simpa using ReadsAll.length _ _ _ hr
            rw [Array.getElem?_eq_none (by omega)] at ha
            simp at ha
          | cons x r => exact ⟨x, r, rfl⟩
        · exact h2 ha.2 d hdm
      · rw [List.mapM_cons, kas_first_eq]
        refine wpAny_bind ?_
        refine wpAny_bind (Looks.here (show Looks (model prog w) s.heap (typeOf (.ref a)) o.cls from (Looks.ld ho).andThen .now) ?_)
        rw [hc, if_neg (by first | decide | simp)]
        refine wpAny_bind (listItems_at ho hd (wpAny_pure ?_))
        exact wpAny_bind (h3 E _ (wpAny_pure h))
theorem SortsAt.tups {vs : List Value} {ds : List PyData} (e : EachIs (fun v d => ∃ as, Reads s.heap v d as) vs ds) (hal : AllAlike ds) (ht : ∀ d, d ∈ ds → ∃ xs, d = .tuple xs) (hu : ∀ d, d ∈ ds → A.units + d.depth < cLine) : SortsAt prog w A s (dataKind s.heap ds) vs := by
  have room : ∀ {d d' : PyData}, d ∈ ds → A.units + min d.depth d'.depth < cLine := fun {d d'} hd => Nat.lt_of_le_of_lt (Nat.add_le_add_left (Nat.min_le_left _ _) _) (hu d hd)
  obtain ⟨fs, f1, f2, f3⟩ := firsts_tups (prog := prog) (w := w) (A := A) e ht
  by_cases hall : fs.all (·.isSome) = true
  · exact SortsAt.data e hal (.inl (f2 hall)) hu
  · refine ⟨fun v hv => ?_, ?_⟩
    · obtain ⟨d, hd, as, r⟩ := e.left v hv
      exact ⟨_, dataKind_some hal hd r⟩
    · by_cases h0 : ((fs.toArray)[0]?.bind id).isSome = true
      · refine ⟨general', ?_, fun h2 E Q hq => ?_⟩
        · intro E x y a b Q ha hb hq
          obtain ⟨d, as, hd, ra, rfl⟩ := dataKind_inv ha
          obtain ⟨d', as', hd', rb, rfl⟩ := dataKind_inv hb
          obtain ⟨xs, rfl⟩ := ht d hd
          show wpAny (model prog w) A (oneLt' false x y) Q E s
          exact oneLt_alike (f := false) (fun h => nomatch h) ra rb (hal _ hd _ hd') (fun h => nomatch h) (room hd) hq
        · rw [keyKind'_eq, List.mapM_toArray, map_eq_pure_bind]
          refine wpAny_bind (wpAny_bind (f3 E _ (wpAny_pure ?_)))
          rw [if_neg (by simpa using hall), if_pos h0]
          exact wpAny_pure hq
      · refine ⟨oneType', ?_, fun h2 E Q hq => ?_⟩
        · intro E x y a b Q ha hb hq
          obtain ⟨d, as, hd, ra, rfl⟩ := dataKind_inv ha
          obtain ⟨d', as', hd', rb, rfl⟩ := dataKind_inv hb
          obtain ⟨xs, rfl⟩ := ht d hd
          obtain ⟨ys, rfl⟩ := ht d' hd'
          rw [keyLt'_oneType]
          exact oneLt_tup ra rb (by simpa [alike] using hal _ hd _ hd') (room (d' := .tuple ys) hd) hq
        · rw [keyKind'_eq, List.mapM_toArray, map_eq_pure_bind]
          refine wpAny_bind (wpAny_bind (f3 E _ (wpAny_pure ?_)))
          rw [if_neg (by simpa using hall), if_neg h0]
          rw [oneTypeOnly'_eq, List.mapM_toArray, map_eq_pure_bind]
          refine wpAny_bind (wpAny_bind (wpAny_bind (kas_mapM (r := Value.type "tuple") _ (fun v hv Q' hq => ?_) (wpAny_pure ?_))))
          · obtain ⟨d, hd, as, r⟩ := e.left v hv
            obtain ⟨xs, rfl⟩ := ht d hd
            exact (looks_reads r).here hq
          · match vs, h2 with
            | [], h2 => simp at h2
            | v0 :: vr, h2 =>
              have hall2 : ((List.map (fun _ => Value.type "tuple") (v0 :: vr)).toArray.all fun x => x == Value.type "tuple") = true := by
                simp only [List.all_toArray, List.all_map, List.all_eq_true]
                intro _ _
                exact beq_self_eq_true _
              have h0' : (List.map (fun _ => Value.type "tuple") (v0 :: vr)).toArray[0]? = some (Value.type "tuple") := by simp
              rw [h0']
              simp only [hall2, if_true]
              exact wpAny_pure (wpAny_pure hq)
theorem collect_tuple {l : Addr} {vs : List Value} {Q : List Value → Shared → Prop} (hl : s.heap.IsTuple l vs.toArray)
    (h : Q vs { s with heap := (s.heap.push (seqObj "list" #[] 0)).update s.heap.objs.size (Obj.mapSeq (· ++ vs.toArray)) }) (hsz : vs.length ≤ sizeLine) :
    wpAny (model prog w) A (collect (.ref l)) Q E s := by
  obtain ⟨o, ho, hc, n, hd⟩ := id hl
  unfold collect
  refine wpAny_bind (wpAny_runValue (codeAny_builtin entry_proto_collect' ?_))
  show wpAny _ _ (do again (.builtin "list.__iadd__" ⟨[← newList [], .ref l], []⟩)) _ _ s
  refine wpAny_bind (wpAny_newList (wpAny_pure ⟨Code.quiet_builtin _ (by decide +kernel), codeAny_builtin entry_list_iadd' ?_⟩) (Nat.zero_le _))
  show wpAny _ _ (Builtin.List.listExtendWith (.ref s.heap.objs.size) (.ref l) (.ref s.heap.objs.size)) _ _ { s with heap := s.heap.push (seqObj "list" #[] 0) }
  unfold Builtin.List.listExtendWith
  have ho' : (s.heap.push (seqObj "list" #[] 0)).get? l = some o := Heap.get?_push_of_some _ ho
  refine wpAny_bind (wpAny_typeOf (T := "tuple") ⟨o, ho', hc⟩ ?_)
  have ht : (Value.type "tuple" == Value.type "tuple") = true := by rfl
  rw [if_pos (by rw [ht]; simp)]
  refine wpAny_bind (listItems_at ho' hd ?_)
  refine wpAny_bind (listItems_at (xs := #[]) (n := 0) (Heap.get?_push_size _ rfl) rfl ?_)
  rw [if_neg (by simp)]
  refine wpAny_bind (listUpdate_at (xs := #[]) (n := 0) (Heap.get?_push_size _ rfl) rfl ?_ (Nat.zero_le _) (by show (#[] ++ vs.toArray).size ≤ sizeLine + 1; simp only [Array.size_append, List.size_toArray, List.length_nil]; omega))
  refine wpAny_pure ?_
  show wpAny (model prog w) A (do
      let o ← load s.heap.objs.size
      match o.data with
      | .seq xs _ => pure xs.toList
      | _ => unsupported "internal:collect") Q E { s with heap := (s.heap.push (seqObj "list" #[] 0)).update s.heap.objs.size (Obj.mapSeq (· ++ vs.toArray)) }
  refine wpAny_bind (wpAny_load (get?_update_seq (Heap.get?_push_size _ rfl) _) ?_)
  show wpAny _ _ (pure ((#[] : Array Value) ++ vs.toArray).toList) Q E _
  rw [show ((#[] : Array Value) ++ vs.toArray).toList = vs by simp]
  exact wpAny_pure h
theorem sorted_valsT {κ : PyProof.Rows.KeyKind} {l : Addr} {vs : List Value} {Q : Value → Shared → Prop} (hl : s.heap.IsTuple l vs.toArray) (S : SortsAt prog w A.in1.in1 { s with heap := sortingHeap (copyHeap s.heap vs) (s.heap.objs.size + 1) vs } κ vs) (hL : vs.length ≤ sizeLine)
    (h : Q (.ref (s.heap.objs.size + 1)) { s with heap := sortedAll s.heap vs (sortVals κ false vs vs).toArray }) : wpAny (model prog w) A (call (.builtin "sorted") [.ref l]) Q E s := by
  refine call_function_entry_kw kind_sorted plain_sorted entry_sorted (args_sorted1 _) ?_
  unfold Builtin.«sorted»
  refine wpAny_bind (m := checkCount "sorted" 1 1 _) (wpAny_pure ?_)
  refine wpAny_bind (collect_tuple hl ?_ hL)
  refine wpAny_bind (wpAny_newList ?_ hL)
  have hsz : ((s.heap.push (seqObj "list" #[] 0)).update s.heap.objs.size (Obj.mapSeq (· ++ vs.toArray))).objs.size = s.heap.objs.size + 1 := by
    rw [Heap.size_update, size_push']
  show wpAny _ _ _ _ _ { s with heap := copyHeap s.heap vs }
  rw [hsz]
  refine wpAny_bind (wpAny_holding (wpAny_call_entry_kw slot_list_sort ⟨_, copyHeap_at s.heap vs, rfl⟩ entry_list_sort ?body (args_list_sort _)))
  case body =>
    show wpAny (model prog w) A.in1.in1 (Builtin.«list.sort» ⟨[.ref (s.heap.objs.size + 1)], []⟩) _ _ _
    refine wpAny_mono (list_sort_vals (P := fun f s' => f = .done (.ret .none) ∧ Q (.ref (s.heap.objs.size + 1)) s') (s := { s with heap := copyHeap s.heap vs }) (copyHeap_at s.heap vs) S hL ⟨rfl, h⟩) (fun f s' hf => ?_) fun _ _ e => e
    obtain ⟨rfl, hq⟩ := hf
    exact ⟨_, rfl, wpAny_pure ⟨_, rfl, hq⟩⟩
theorem sorted_dataT {β : Type} {vs : List Value} {bs : List β} {enc : β → PyData} {R : Value → β → Prop} {l : Addr} {Q : Value → Shared → Prop} (hl : s.heap.IsTuple l vs.toArray) (e : EachIs R vs bs) (er : EachIs (fun v b => ∃ as, Reads s.heap v (enc b) as) vs bs) (hal : AllAlike (bs.map enc)) (hk : Sortable (bs.map enc) ∨ ∀ d, d ∈ bs.map enc → ∃ xs, d = .tuple xs) (hL : bs.length ≤ sizeLine)
    (hu : ∀ b, b ∈ bs → A.units + 2 + (enc b).depth < cLine) (h : ∀ out, out.length = bs.length → EachIs R out (bs.mergeSort (dataLe false enc)) → Q (.ref (s.heap.objs.size + 1)) { s with heap := sortedAll s.heap vs (List.toArray out) }) :
    wpAny (model prog w) A (call (.builtin "sorted") [.ref l]) Q E s := by
  have er' : EachIs (fun v b => ∃ as, Reads (sortingHeap (copyHeap s.heap vs) (s.heap.objs.size + 1) vs) v (enc b) as) vs bs := er.mono fun _ _ ⟨as, r⟩ => ⟨as, PyProof.Rows.Reads.keeps (fun _ _ => sorting_copy_old) r⟩
  refine sorted_valsT hl (κ := dataKind (sortingHeap (copyHeap s.heap vs) (s.heap.objs.size + 1) vs) (bs.map enc)) ?_ (by rw [e.length]; exact hL) (h _ (by rw [sortVals_length false rfl]; exact e.length) (sortVals_data false e er' hal))
  have em := each_map (R := fun v d => ∃ as, Reads (sortingHeap (copyHeap s.heap vs) (s.heap.objs.size + 1) vs) v d as) enc er'
  rcases hk with hk | hk
  · exact SortsAt.data (s := { s with heap := sortingHeap (copyHeap s.heap vs) (s.heap.objs.size + 1) vs }) em hal hk (bound_map hu)
  · exact SortsAt.tups (s := { s with heap := sortingHeap (copyHeap s.heap vs) (s.heap.objs.size + 1) vs }) em hal hk (bound_map hu)
theorem sorted_data' {β : Type} {vs : List Value} {bs : List β} {enc : β → PyData} {R : Value → β → Prop} {l : Addr} {Q : Value → Shared → Prop} (hl : s.heap.IsList l vs.toArray) (e : EachIs R vs bs) (er : EachIs (fun v b => ∃ as, Reads s.heap v (enc b) as) vs bs) (hal : AllAlike (bs.map enc)) (hk : Sortable (bs.map enc) ∨ ∀ d, d ∈ bs.map enc → ∃ xs, d = .tuple xs) (hL : bs.length ≤ sizeLine)
    (hu : ∀ b, b ∈ bs → A.units + 2 + (enc b).depth < cLine) (h : ∀ out, out.length = bs.length → EachIs R out (bs.mergeSort (dataLe false enc)) → Q (.ref (s.heap.objs.size + 1)) { s with heap := sortedAll s.heap vs (List.toArray out) }) :
    wpAny (model prog w) A (call (.builtin "sorted") [.ref l]) Q E s := by
  rcases hk with hk | hk
  · exact sorted_data hl e er hal hk hL hu h
  · have er' : EachIs (fun v b => ∃ as, Reads (sortingHeap (copyHeap s.heap vs) (s.heap.objs.size + 1) vs) v (enc b) as) vs bs := er.mono fun _ _ ⟨as, r⟩ => ⟨as, PyProof.Rows.Reads.keeps (fun _ _ => sorting_copy_old) r⟩
    exact sorted_vals hl (SortsAt.tups (s := { s with heap := sortingHeap (copyHeap s.heap vs) (s.heap.objs.size + 1) vs }) (each_map (R := fun v d => ∃ as, Reads (sortingHeap (copyHeap s.heap vs) (s.heap.objs.size + 1) vs) v d as) enc er') hal hk (bound_map hu)) (by rw [e.length]; exact hL)
      (h _ (by rw [sortVals_length false rfl]; exact e.length) (sortVals_data false e er' hal))
end
end VL

set_option Elab.async false
set_option linter.all false
set_option autoImplicit false
set_option maxRecDepth 100000
namespace VL
open PySem PySem.Spec L2
open PyProof.Rows hiding St

section
variable {X : Cx} {W : WX} {p q : Bool} {e ea eb : Expr} {es : List Expr} {pos : Pos}
variable {σ0 σ : St} {G H G1 H1 G2 H2 : Hp} {F F1 F2 : Fps} {S S1 S2 : Sl}
/-! ### sorted(x), x a list or a tuple of data -/
def rSortedE (K : PySem.W.Frag) : List V → Hp → VK → Prop := fun vs H Q => ∃ (a : Addr) (ps : List (V × D)), vs = [.ref a] ∧ (H a = some (.lst (ps.map (·.1))) ∨ H a = some (.tup (ps.map (·.1)))) ∧ (∀ b ∈ ps, Dp K H b.1 b.2.py) ∧
  PySem.W.AllAlike (ps.map fun b => b.2.py) ∧ (PySem.W.Sortable (ps.map fun b => b.2.py) ∨ ∀ d, d ∈ ps.map (fun b => b.2.py) → ∃ xs, d = .tuple xs) ∧ (∀ b ∈ ps, b.2.py.depth ≤ 60) ∧
  ∀ c, H c = none → Q (.ref c) (upd H c (.lst ((ps.mergeSort (PySem.W.dataLe false fun b => b.2.py)).map (·.1))))
theorem cr_sortedE (hu : X.A.units + 64 < cLine) : CallR X (.builtin "sorted") (rSortedE X.K) := by
  intro pins s σ H vs us Q I r h
  obtain ⟨a, ps, rfl, ha, hd, al, so, dp, q⟩ := h
  rw [Vals.ref1 r]
  have fin : ∀ (its out : List Value), its.length = ps.length → ps.length ≤ sizeLine → PySem.W.EachIs (fun u b => RelV b.1 u) out (ps.mergeSort (PySem.W.dataLe false fun b => b.2.py)) → EP X pins σ Q (.ref (s.heap.objs.size + 1)) { s with heap := sortedAll s.heap its out.toArray } := fun its out hl hz h2 => by
    obtain ⟨ep, he'⟩ := PyProof.Rows.sortedAll_at s.heap its out.toArray
    have hlen : ((ps.mergeSort (PySem.W.dataLe false fun b => b.2.py)).map (·.1)).length ≤ sizeLine := by rw [List.length_map, (List.mergeSort_perm _ _).length_eq]; exact hz
    exact ⟨.ref _, upd H (s.heap.objs.size + 1) (.lst _), I.laid (t' := s.toks) (fun _ _ => PyProof.Rows.sortedAll_old) (Nat.le_succ _) ⟨hlen, out, ep, vals_of_each h2, by simpa using he'⟩, rfl, q _ (I.hok.fresh (Nat.le_succ _))⟩
  rcases ha with ha | ha
  · obtain ⟨its, rv, hl, hz⟩ := I.list (.of ha)
    rw [List.length_map] at hz
    exact sorted_data' (R := fun u b => RelV b.1 u) (enc := fun b : V × D => b.2.py) hl.isList (each_of_vals rv fun b _ u h => h) (each_of_vals rv fun b hb u h => Dp.reads I _ _ u (hd b hb) h) al so hz (fun b hb => by have := dp b hb; omega) fun out h1 h2 => fin its out (by rw [← rv.length, List.length_map]) hz h2
  · obtain ⟨its, rv, hl, hz⟩ := I.tuple (.of ha)
    rw [List.length_map] at hz
    exact sorted_dataT (R := fun u b => RelV b.1 u) (enc := fun b : V × D => b.2.py) hl (each_of_vals rv fun b _ u h => h) (each_of_vals rv fun b hb u h => Dp.reads I _ _ u (hd b hb) h) al so hz (fun b hb => by have := dp b hb; omega) fun out h1 h2 => fin its out (by rw [← rv.length, List.length_map]) hz h2
def D.isTup : D → Bool
  | .tup _ => true
  | _ => false
def D.isTup1 : D → Bool
  | .tup (_ :: _) => true
  | _ => false
def sortOk (ds : List D) : Bool := lineOk ds && ds.all D.plain && (ds.all fun a => ds.all fun b => PySem.W.alike a.py b.py) && (ds.all D.isTup || ds.all fun d => !d.isTup && !d.isNon) && ds.all fun d => decide (d.py.depth ≤ 60)
def dSorted (x : D) : Option (List D) := match x.items with
  | some ds => if sortOk ds then some (ds.mergeSort (PySem.W.dataLe false D.py)) else none
  | none => none
theorem fzL_zip : ∀ {ds : List D} {vs : List V}, FzL G ds vs → ∃ ps : List (V × D), ps.map (·.1) = vs ∧ ps.map (·.2) = ds ∧ ∀ b ∈ ps, Fz G b.2 b.1
  | [], vs, h => by simp only [FzL] at h; subst h; exact ⟨[], rfl, rfl, by simp⟩
  | d :: ds, vs, h => by
    simp only [FzL] at h
    obtain ⟨v, r, rfl, h1, h2⟩ := h
    obtain ⟨ps, e1, e2, e3⟩ := fzL_zip h2
    refine ⟨(v, d) :: ps, by simp [e1], by simp [e2], fun b hb => ?_⟩
    rcases List.mem_cons.mp hb with rfl | hb
    · exact h1
    · exact e3 b hb
theorem fzL_of_pairs : ∀ {ps : List (V × D)}, (∀ b ∈ ps, Fz G b.2 b.1) → FzL G (ps.map (·.2)) (ps.map (·.1))
  | [], _ => .nil
  | b :: ps, h => .cons (h b (by simp)) (fzL_of_pairs fun c hc => h c (by simp [hc]))
theorem plain_tup {d : D} (h : d.plain = true) (ht : d.isTup = true) : ∃ xs, d.py = .tuple xs := by
  cases d <;> first | (cases ht; done) | exact ⟨_, rfl⟩
theorem plain_not {d : D} (h : d.plain = true) (ht : d.isTup = false) (hn : d.isNon = false) : d.py ≠ .none ∧ ∀ xs, d.py ≠ .tuple xs := by
  cases d <;> first | (cases ht; done) | (cases hn; done) | (simp [D.plain] at h; done) | (constructor <;> simp [D.py])
theorem cn_sorted : CallN (rSortedE X.K) dSorted := by
  intro x ds hd G H v Q z m k
  unfold dSorted at hd
  cases hi : x.items with
  | none => rw [hi] at hd; cases hd
  | some xs =>
    rw [hi] at hd
    simp only at hd
    split at hd
    case isFalse => cases hd
    rename_i hc
    cases hd
    unfold sortOk at hc
    simp only [Bool.and_eq_true, List.all_eq_true, decide_eq_true_eq, Bool.or_eq_true, Bool.not_eq_true'] at hc
    obtain ⟨⟨⟨⟨hl, hp⟩, hal⟩, hs⟩, hdp⟩ := hc
    obtain ⟨a, vs, rfl, ha, fa⟩ : ∃ a vs, v = .ref a ∧ (H a = some (.lst vs) ∨ H a = some (.tup vs)) ∧ FzL G xs vs := by
      cases x <;> simp only [D.items] at hi <;> cases hi
      · obtain ⟨a, vs, e, h1, h2⟩ := z.lst m
        exact ⟨a, vs, e, .inl h1, h2⟩
      · obtain ⟨a, vs, e, h1, h2⟩ := z.tup m
        exact ⟨a, vs, e, .inr h1, h2⟩
    obtain ⟨ps, rfl, rfl, e3⟩ := fzL_zip fa
    have hm : ∀ d, d ∈ ps.map (fun b => b.2.py) → ∃ b ∈ ps, b.2.py = d := fun d hd => by simpa using hd
    refine ⟨a, ps, rfl, ha, fun b hb => ((e3 b hb).inc m).dp b.2 b.1 (hp _ (List.mem_map.mpr ⟨b, hb, rfl⟩)), fun d hd d' hd' => ?_, ?_, fun b hb => hdp _ (List.mem_map.mpr ⟨b, hb, rfl⟩), fun c hc => ?_⟩
    · obtain ⟨b, hb, rfl⟩ := hm d hd
      obtain ⟨b', hb', rfl⟩ := hm d' hd'
      exact hal _ (List.mem_map.mpr ⟨b, hb, rfl⟩) _ (List.mem_map.mpr ⟨b', hb', rfl⟩)
    · rcases hs with hs | hs
      · refine .inr fun d hd => ?_
        obtain ⟨b, hb, rfl⟩ := hm d hd
        exact plain_tup (hp _ (List.mem_map.mpr ⟨b, hb, rfl⟩)) (hs _ (List.mem_map.mpr ⟨b, hb, rfl⟩))
      · refine .inl (.inr fun d hd => ?_)
        obtain ⟨b, hb, rfl⟩ := hm d hd
        obtain ⟨h1, h2⟩ := hs _ (List.mem_map.mpr ⟨b, hb, rfl⟩)
        exact plain_not (hp _ (List.mem_map.mpr ⟨b, hb, rfl⟩)) h1 h2
    · have e : (ps.map (·.2)).mergeSort (PySem.W.dataLe false D.py) = (ps.mergeSort (PySem.W.dataLe false fun b => b.2.py)).map (·.2) :=
        (PySem.W.sort_maps (fun b : V × D => b.2) (fun _ _ _ _ => rfl)).symm
      rw [e] at k
      exact k _ c (fzL_of_pairs fun b hb => e3 b ((List.mergeSort_perm _ _).mem_iff.mp hb)) hc
end
end VL

set_option Elab.async false
set_option linter.all false
set_option autoImplicit false
set_option maxRecDepth 100000
namespace VL
open PySem PySem.Spec L2
open PyProof.Rows hiding St

/-! ## how many items are different -/
def nub {α : Type} [DecidableEq α] : List α → List α
  | [] => []
  | x :: xs => if x ∈ xs then nub xs else x :: nub xs
theorem mem_nub {α : Type} [DecidableEq α] : ∀ {l : List α} {x : α}, x ∈ nub l ↔ x ∈ l
  | [], x => by simp [nub]
  | y :: l, x => by
    unfold nub
    split
    · rw [mem_nub (l := l)]
      rename_i h
      constructor
      · exact fun h => List.mem_cons_of_mem _ h
      · intro h'
        rcases List.mem_cons.mp h' with rfl | h'
        · exact h
        · exact h'
    · rw [List.mem_cons, List.mem_cons, mem_nub (l := l)]
theorem nodup_nub {α : Type} [DecidableEq α] : ∀ l : List α, (nub l).Nodup
  | [] => .nil
  | y :: l => by
    unfold nub
    split
    · exact nodup_nub l
    · rename_i h
      exact List.nodup_cons.mpr ⟨fun h' => h (mem_nub.mp h'), nodup_nub l⟩
theorem nodup_le {α : Type} [DecidableEq α] : ∀ (l m : List α), l.Nodup → (∀ x ∈ l, x ∈ m) → l.length ≤ m.length
  | [], m, _, _ => Nat.zero_le _
  | x :: l, m, hn, h => by
    obtain ⟨h1, h2⟩ := List.nodup_cons.mp hn
    have hx := h x (by simp)
    have := nodup_le l (m.erase x) h2 fun y hy => (List.mem_erase_of_ne (fun e : y = x => h1 (by rw [← e]; exact hy))).mpr (h y (by simp [hy]))
    rw [List.length_erase_of_mem hx] at this
    have hp : 0 < m.length := List.length_pos_of_mem hx
    simp only [List.length_cons]
    omega
theorem nodup_eq {α : Type} [DecidableEq α] {l m : List α} (hl : l.Nodup) (hm : m.Nodup) (h : ∀ x, x ∈ l ↔ x ∈ m) : l.length = m.length :=
  Nat.le_antisymm (nodup_le l m hl fun x hx => (h x).mp hx) (nodup_le m l hm fun x hx => (h x).mpr hx)
theorem firstMet_ok (f : Nat → Int) : ∀ i, (firstMet f i).Nodup ∧ ∀ x, x ∈ firstMet f i ↔ ∃ j, j < i ∧ f j = x
  | 0 => ⟨.nil, fun x => ⟨(fun h => nomatch h), fun ⟨j, hj, _⟩ => absurd hj (Nat.not_lt_zero _)⟩⟩
  | i + 1 => by
    obtain ⟨h1, h2⟩ := firstMet_ok f i
    rw [firstMet_succ]
    unfold step_dedup
    split
    · rename_i h
      refine ⟨h1, fun x => ?_⟩
      rw [h2]
      constructor
      · exact fun ⟨j, hj, e⟩ => ⟨j, Nat.lt_succ_of_lt hj, e⟩
      · rintro ⟨j, hj, e⟩
        rcases Nat.lt_or_ge j i with hlt | hge
        · exact ⟨j, hlt, e⟩
        · have : j = i := by omega
          subst this
          obtain ⟨y, hy, e2⟩ := List.any_eq_true.mp h
          have e3 : y = f j := by simpa using e2
          obtain ⟨k, hk, e4⟩ := (h2 y).mp hy
          exact ⟨k, hk, by rw [e4, e3, e]⟩
    · rename_i h
      refine ⟨List.nodup_append.mpr ⟨h1, by simp, fun a ha b hb e => ?_⟩, fun x => ?_⟩
      · have : b = f i := by simpa using hb
        subst this
        subst e
        exact h (List.any_eq_true.mpr ⟨_, ha, by simp⟩)
      · rw [List.mem_append, h2]
        constructor
        · rintro (⟨j, hj, e⟩ | hx)
          · exact ⟨j, Nat.lt_succ_of_lt hj, e⟩
          · exact ⟨i, Nat.lt_succ_self i, (by simpa using hx : x = f i).symm⟩
        · rintro ⟨j, hj, e⟩
          rcases Nat.lt_or_ge j i with hlt | hge
          · exact .inl ⟨j, hlt, e⟩
          · have : j = i := by omega
            subst this
            exact .inr (by simp [e])
theorem firstMet_len (ns : List Int) : (firstMet (fun i => ns.getD i 0) ns.length).length = (nub ns).length := by
  obtain ⟨h1, h2⟩ := firstMet_ok (fun i => ns.getD i 0) ns.length
  refine nodup_eq h1 (nodup_nub ns) fun x => ?_
  rw [h2, mem_nub]
  constructor
  · rintro ⟨j, hj, e⟩
    rw [List.getD_eq_getElem?_getD, List.getElem?_eq_getElem hj] at e
    exact e ▸ List.getElem_mem hj
  · intro h
    obtain ⟨j, hj, e⟩ := List.getElem_of_mem h
    exact ⟨j, hj, by rw [List.getD_eq_getElem?_getD, List.getElem?_eq_getElem hj]; exact e⟩
/-- tuples of ints -/
def D.tints : List D → Option (List (List Int))
  | [] => some []
  | .tup xs :: ds => match D.ints xs, D.tints ds with
    | some ns, some r => some (ns :: r)
    | _, _ => none
  | _ => none
theorem D.tints_map : ∀ {ds : List D} {ks : List (List Int)}, D.tints ds = some ks → ds = ks.map fun k => D.tup (k.map D.int)
  | [], ks, h => by cases h; rfl
  | .tup xs :: ds, ks, h => by
    simp only [D.tints] at h
    split at h
    · rename_i ns r h1 h2
      cases h
      rw [D.ints_map h1, D.tints_map h2]
      rfl
    · cases h
  | .int _ :: _, _, h => by cases h
  | .non :: _, _, h => by cases h
  | .bl _ :: _, _, h => by cases h
  | .str _ :: _, _, h => by cases h
  | .ty _ :: _, _, h => by cases h
  | .lst _ :: _, _, h => by cases h
  | .dK _ _ :: _, _, h => by cases h
  | .dT _ _ :: _, _, h => by cases h
  | .obj _ _ _ :: _, _, h => by cases h
  | .exc _ _ _ _ :: _, _, h => by cases h
  | .kl _ _ _ :: _, _, h => by cases h
def dLenSet : D → Option D
  | .lst ds => if ds.length < 64 then (match D.ints ds with
    | some ns => some (.int (nub ns).length)
    | none => (match D.tints ds with
      | some ks => some (.int (nub ks).length)
      | none => none)) else none
  | _ => none
section
variable {X : Cx} {W : WX} {p q : Bool} {e ea eb : Expr} {es : List Expr} {pos : Pos}
variable {σ0 σ : St} {G H G1 H1 G2 H2 : Hp} {F F1 F2 : Fps} {S S1 S2 : Sl}
def rLenSet (K : PySem.W.Frag) (x : V) (H : Hp) (Q : VK) : Prop := (∃ (l : Addr) (ns : List Int), x = V.ref l ∧ SqL K H l (ns.map V.int) ∧ ns.length < 64 ∧ Q (.int (nub ns).length) H) ∨
  ∃ (l : Addr) (ks : List (Addr × List Int)), x = V.ref l ∧ SqL K H l (ks.map fun p => V.ref p.1) ∧ (∀ p ∈ ks, SqT K H p.1 (p.2.map V.int)) ∧ ks.length < 64 ∧ Q (.int (nub (ks.map (·.2))).length) H
theorem pe_lenSet {a : Expr} {ta : TE} {p p2 q pos : Pos} (hc : X.calm = true) (hu : X.A.units + 64 < cLine) (hg : Gl X "len") (hm : X.mg "len" = none) (hg2 : Gl X "set") (hm2 : X.mg "set" = none) (ha : PE X a ta)
    (na : starEach [a] X.env = (false, eval a X.env) :: starEach [] X.env := by rfl) : PE X (.Call (.Name "len" p) [.Call (.Name "set" p2) [a] [] q] [] pos) (fun σ H Q => ta σ H fun x H1 => rLenSet X.K x H1 Q) := by
  refine ⟨fun pins s σ H Q I h => ?_⟩
  refine Call_ (ld_blt I hg hm PySem.boot_len ?_)
  refine PyProof.Rows.callWith_builtin1 (PyProof.Rows.args_cons ?_ rfl) rfl rfl
  refine Call_ (ld_blt I hg2 hm2 PyProof.Rows.boot_set ?_)
  refine PyProof.Rows.callWith_type1 (PyProof.Rows.args_cons (thn (ha.run pins s σ H _ I h) fun v s1 ⟨x, H1, I1, r1, q1⟩ => PyProof.Rows.args_nil ?_) na) na rfl
  rcases q1 with ⟨l, ns, rfl, hq, h1, q1⟩ | ⟨l, ks, rfl, hq, hk, h1, q1⟩
  · cases r1
    obtain ⟨its, r, pl, hz⟩ := I1.list hq
    have hl : its.toArray.size = ns.length := by rw [List.size_toArray, ← r.length, List.length_map]
    refine call_set_list (I1.ok.hd hc) pl.isList (ns := ns) (by simpa using r.ints) (by unfold scanBound; omega) fun h' tk hS hk => ?_
    refine PyProof.Rows.args_nil ?_
    obtain ⟨o, es, ep, t, ho, hex, hd, _, _, _, hf, hn⟩ := hS
    have I2 : Inv X pins σ H1 { s1 with heap := h', toks := tk } := I1.kept fun b o e => hk b o (Heap.lt_size e) e
    rw [hl, firstMet_len] at hn
    have hle : (nub ns).length ≤ ns.length := nodup_le _ _ (nodup_nub ns) fun x hx => mem_nub.mp hx
    refine call_len_set ho hex hd hf (by rw [hn] <;> omega) ⟨.int (nub ns).length, H1, I2.tok _, ⟨_, by rw [hn]⟩, q1⟩
  · cases r1
    obtain ⟨its, rv, pl, hz⟩ := I1.list hq
    refine call_set_tups (P := X.prog) (w := X.w) ks (I1.ok.hd hc) pl.isList (by simpa using refs_of_vals rv) (fun p hp => I1.isT (hk p hp)) h1 (by omega) fun h' tk L es ep t R g k => ?_
    refine PyProof.Rows.args_nil ?_
    obtain ⟨o, ho, hex, hd⟩ := R.ob
    have I2 : Inv X pins σ H1 { s1 with heap := h', toks := tk } := I1.kept k
    have hn : es.size = (nub (ks.map (·.2))).length := by
      rw [SetTR.size (s := { s1 with heap := h' }) R]
      have : (L.map (·.2)).length = (nub (ks.map (·.2))).length := nodup_eq R.nd (nodup_nub _) fun x => by
        rw [mem_nub]
        constructor
        · intro hx
          obtain ⟨p, hp, rfl⟩ := List.mem_map.mp hx
          exact List.mem_map.mpr ⟨p, List.mem_of_mem_take (g.sub p hp), rfl⟩
        · intro hx
          obtain ⟨p, hp, rfl⟩ := List.mem_map.mp hx
          exact g.all p (by rw [List.take_length]; exact hp)
      rw [← this, List.length_map]
    have hle : (nub (ks.map (·.2))).length ≤ ks.length := by
      have := nodup_le _ _ (nodup_nub (ks.map (·.2))) fun x hx => mem_nub.mp hx
      rwa [List.length_map] at this
    exact call_len_set ho hex hd (SetTR.fits (s := { s1 with heap := h' }) R) (by rw [hn] <;> omega) ⟨.int (nub (ks.map (·.2))).length, H1, I2.tok _, ⟨_, by rw [hn]⟩, q1⟩
def gLenSet (g : Sl → R Vl) : Sl → R D := fun S => (g S).bind fun x S1 => if x.lev then (match dLenSet x.d with | some d => .ok d S1 | none => .stuck) else .stuck
theorem fzL_tints : ∀ {ks : List (List Int)} {vs : List V}, FzL G (ks.map fun k => D.tup (k.map D.int)) vs → ∃ ps : List (Addr × List Int), vs = ps.map (fun p => V.ref p.1) ∧ ps.map (·.2) = ks ∧ ∀ p ∈ ps, G p.1 = some (.tup (p.2.map V.int))
  | [], vs, h => by
    have : vs = [] := by simpa [FzL] using h
    exact ⟨[], by simp [this], rfl, by simp⟩
  | k :: ks, vs, h => by
    simp only [List.map_cons, FzL] at h
    obtain ⟨v, r, rfl, h1, h2⟩ := h
    obtain ⟨ps, e1, e2, e3⟩ := fzL_tints h2
    simp only [Fz] at h1
    obtain ⟨a, us, rfl, ha, hu⟩ := h1
    rw [hu.ints] at ha
    refine ⟨(a, k) :: ps, by simp [e1], by simp [e2], fun p hp => ?_⟩
    rcases List.mem_cons.mp hp with rfl | hp
    · exact ha
    · exact e3 p hp
theorem vd_lenSet {a : Expr} {g : Sl → R Vl} {p1 p2 q1 : Pos} (h : VE p X W a g) (hc : X.calm = true) (hu : X.A.units + 64 < cLine) (hg : Gl X "len" := by rfl) (hm : X.mg "len" = none) (hg2 : Gl X "set" := by rfl) (hm2 : X.mg "set" = none)
    (na : starEach [a] X.env = (false, eval a X.env) :: starEach [] X.env := by rfl) : VD p X W (.Call (.Name "len" p1) [.Call (.Name "set" p2) [a] [] q1] [] pos) (gLenSet g) := by
  obtain ⟨t, t1, t2⟩ := h
  refine ⟨_, pe_lenSet hc hu hg hm hg2 hm2 t1 na, fun σ0 σ G H S F Q r hw => ?_⟩
  refine VE.then (t := t) t2 r hw fun x S1 v fp G1 H1 F1 r1 g1 z1 hw1 => ?_
  split at hw1
  case isFalse => exact hw1.elim
  rename_i hl
  cases hd : dLenSet x.d with
  | none => rw [hd] at hw1; exact hw1.elim
  | some d =>
    rw [hd] at hw1
    have z := z1.rv1 hl
    generalize x.d = y at hd z
    cases y <;> simp only [dLenSet] at hd <;> first | (cases hd; done) | skip
    rename_i ds
    split at hd
    case isFalse => cases hd
    rename_i h64
    obtain ⟨b, vs, rfl, hb, fb⟩ := z.lst r1.inc
    cases hi : D.ints ds with
    | some ns =>
      rw [hi] at hd
      cases hd
      rw [D.ints_map hi] at fb h64
      rw [fb.ints] at hb
      exact .inl ⟨b, ns, rfl, .of hb, by simpa using h64, hw1 _ G1 H1 F1 r1 g1 rfl⟩
    | none =>
      rw [hi] at hd
      cases ht : D.tints ds with
      | none => rw [ht] at hd; cases hd
      | some ks =>
        rw [ht] at hd
        cases hd
        rw [D.tints_map ht] at fb h64
        obtain ⟨ps, rfl, rfl, e3⟩ := fzL_tints fb
        exact .inr ⟨b, ps, rfl, .of hb, fun p hp => .of (r1.inc _ _ (e3 p hp)), by simpa using h64, hw1 _ G1 H1 F1 r1 g1 rfl⟩
end
end VL

set_option Elab.async false
set_option linter.all false
set_option autoImplicit false
set_option maxRecDepth 100000
namespace VL
open PySem PySem.Spec L2
open PyProof.Rows hiding St

section
variable {X : Cx} {W : WX} {p q p' : Bool} {e ea eb : Expr} {es : List Expr} {pos : Pos}
variable {σ0 σ : St} {G H G1 H1 G2 H2 : Hp} {F F1 F2 : Fps} {S S1 S2 : Sl}

/-! ### types as values, isinstance -/
theorem vd_type {x : Str} {n : String} (hg : Gl X x := by rfl) (hm : X.mg x = none) (hv : bootBuiltins x = some (.type n)) (hn : x ≠ "__name__" := by decide) (hd : (x == ("__debug__" : Str)) = false := by decide) : VD true X W (.Name x pos) (gC (.ty n)) :=
  vd_c (v := .ty n) (pe_bltn hg hm hv rfl hn hd) fun _ => rfl
def tyName : D → Option String
  | .non => some "NoneType"
  | .bl _ => some "bool"
  | .int _ => some "int"
  | .str _ => some "str"
  | .lst _ => some "list"
  | .tup _ => some "tuple"
  | .dK _ _ => some "dict"
  | _ => none
def tyDom : List String := ["int", "str", "bool", "list", "tuple", "dict"]
def isiB (t n : String) : Bool := t == n || (t == "bool" && n == "int")
theorem isiB_kit : ∀ t ∈ "NoneType" :: tyDom, ∀ n ∈ tyDom, kitB t n = some (isiB t n) := by decide +kernel
def isiAny (t : String) : List D → Option Bool
  | [] => some false
  | .ty n :: r => if tyDom.contains n then (isiAny t r).map (isiB t n || ·) else none
  | _ => none
def dIsi : List D → Option D
  | [x, .ty n] => if tyDom.contains n then (tyName x).map fun t => .bl (isiB t n) else none
  | [x, .tup cs] => (tyName x).bind fun t => (isiAny t cs).map .bl
  | _ => none
theorem tyName_dom {x : D} {t : String} (h : tyName x = some t) : t ∈ "NoneType" :: tyDom := by
  cases x <;> simp only [tyName] at h <;> cases h <;> decide
theorem tyName_ty {K : PySem.W.Frag} {x : D} {t : String} {v : V} (h : tyName x = some t) (z : Fz G x v) (m : Inc G H) : TyX K H v (.type t) := by
  cases x <;> simp only [tyName] at h <;> first | (cases h; done) | skip
  all_goals (cases h; simp only [Fz] at z)
  · subst z; exact .base .non
  · subst z; exact .base (.bl _)
  · subst z; exact .base (.int _)
  · subst z; exact .base (.str _)
  · obtain ⟨a, vs, rfl, ha, _⟩ := z; exact .base (.lst (m _ _ ha))
  · obtain ⟨a, vs, rfl, ha, _⟩ := z; exact .base (.tup (m _ _ ha))
  · obtain ⟨a, vs, rfl, ha, _⟩ := z
    rcases ha with ha | ⟨o, ha⟩
    · exact .base (.dK (m _ _ ha))
    · exact .fDict (m _ _ ha)
theorem isiAny_ok {K : PySem.W.Frag} {t : String} (ht : t ∈ "NoneType" :: tyDom) : ∀ {cs : List D} {vs : List V} {b : Bool}, isiAny t cs = some b → FzL G cs vs → ∃ us, Paired ClsV vs us ∧ PySem.W.kitAny K (.type t) us = some b
  | [], vs, b, h, z => by
    cases h
    simp only [FzL] at z
    subst z
    exact ⟨[], .nil, kitAny_nil⟩
  | .ty n :: r, vs, b, h, z => by
    simp only [isiAny] at h
    simp only [FzL, Fz] at z
    obtain ⟨v, vr, rfl, rfl, z2⟩ := z
    split at h
    case isFalse => cases h
    rename_i hn
    have hn : n ∈ tyDom := by simpa using hn
    have hk := kit_ty (K := K) (isiB_kit t ht n hn)
    obtain ⟨b', h', e⟩ := Option.map_eq_some_iff.mp h
    obtain ⟨us, h1, h2⟩ := isiAny_ok ht h' z2
    refine ⟨.type n :: us, .cons (.ty n) h1, kitAny_cons hk (fun e' => ?_) fun e' => ?_⟩
    · rw [e'] at e; rw [h2, ← e]; rfl
    · rw [e'] at e; rw [← e]; rfl
  | .non :: _, _, _, h, _ => by cases h
  | .bl _ :: _, _, _, h, _ => by cases h
  | .int _ :: _, _, _, h, _ => by cases h
  | .str _ :: _, _, _, h, _ => by cases h
  | .lst _ :: _, _, _, h, _ => by cases h
  | .tup _ :: _, _, _, h, _ => by cases h
  | .dK _ _ :: _, _, _, h, _ => by cases h
  | .dT _ _ :: _, _, _, h, _ => by cases h
  | .obj _ _ _ :: _, _, _, h, _ => by cases h
  | .exc _ _ _ _ :: _, _, _, h, _ => by cases h
  | .kl _ _ _ :: _, _, _, h, _ => by cases h
theorem callR_or {f : Value} {r r' : List V → Hp → VK → Prop} (h : CallR X f r) (h' : CallR X f r') : CallR X f (fun vs H Q => r vs H Q ∨ r' vs H Q) :=
  fun pins s σ H xs us Q I rv q => q.elim (h pins s σ H xs us Q I rv) (h' pins s σ H xs us Q I rv)
theorem cd_isi {K : PySem.W.Frag} : CallD (fun vs H Q => rIsi K vs H Q ∨ rIsiT K vs H Q) dIsi := by
  intro ds d hd G H vs Q z m k
  match ds, hd with
  | [x, .ty n], hd =>
    simp only [dIsi] at hd
    split at hd
    case isFalse => cases hd
    rename_i hn
    have hn : n ∈ tyDom := by simpa using hn
    obtain ⟨t, ht, rfl⟩ := Option.map_eq_some_iff.mp hd
    obtain ⟨v, u, rfl, zx, zt⟩ := fzL2 z
    simp only [Fz] at zt
    subst zt
    exact .inl ⟨v, .ty n, .type t, .type n, isiB t n, rfl, .ty n, tyName_ty ht zx m, kit_ty (isiB_kit t (tyName_dom ht) n hn), k _ rfl⟩
  | [x, .tup cs], hd =>
    simp only [dIsi] at hd
    obtain ⟨t, ht, h2⟩ := Option.bind_eq_some_iff.mp hd
    obtain ⟨b, hb, rfl⟩ := Option.map_eq_some_iff.mp h2
    obtain ⟨v, u, rfl, zx, zt⟩ := fzL2 z
    simp only [Fz] at zt
    obtain ⟨a, us, rfl, ha, hu⟩ := zt
    obtain ⟨ws, h1, h3⟩ := isiAny_ok (K := K) (tyName_dom ht) hb hu
    exact .inr ⟨v, a, us, .type t, ws, b, rfl, m _ _ ha, h1, tyName_ty ht zx m, h3, k _ rfl⟩

/-! ### is True, is False -/
def rIsBl (neg : Bool) : R2 := fun x y H Q => ∃ c, y = .bl c ∧ ((∃ b, x = .bl b ∧ Q (.bl (if neg then !(b == c) else b == c)) H) ∨ (x = .non ∧ Q (.bl neg) H))
theorem op_isBl : OpR X (compareOp .Is) (rIsBl false) := by
  intro pins s σ H x y v u Q I rx ry h
  obtain ⟨c, rfl, h⟩ := h
  cases ry
  rcases h with ⟨b, rfl, q⟩ | ⟨rfl, q⟩
  · cases rx
    exact PyProof.Rows.is_bool (fin_bl I q rfl)
  · cases rx
    exact wpAny_pure (fin_bl I q rfl)
theorem op_isnotBl : OpR X (compareOp .IsNot) (rIsBl true) := by
  intro pins s σ H x y v u Q I rx ry h
  obtain ⟨c, rfl, h⟩ := h
  cases ry
  rcases h with ⟨b, rfl, q⟩ | ⟨rfl, q⟩
  · cases rx
    cases b <;> cases c <;> exact wpAny_pure (fin_bl I q rfl)
  · cases rx
    exact wpAny_pure (fin_bl I q rfl)
def dIsBl (neg : Bool) : D → D → Option D := fun x y => match x, y with
  | .bl b, .bl c => some (.bl (if neg then !(b == c) else b == c))
  | .non, .bl _ => some (.bl neg)
  | _, _ => none
theorem opd_isBl {neg : Bool} : OpD (rIsBl neg) (dIsBl neg) := by
  intro x y d hd G H v u Q zx zy _ k
  cases x <;> cases y <;> simp only [dIsBl] at hd <;> first | (cases hd; done) | skip
  all_goals (cases hd; simp only [Fz] at zx zy)
  · exact ⟨_, zy, .inr ⟨zx, k _ rfl⟩⟩
  · exact ⟨_, zy, .inl ⟨_, zx, k _ rfl⟩⟩

/-! ### choices told by the slots -/
theorem pe_or {t u : TE} (a : PE X e t) (b : PE X e u) : PE X e (fun σ H Q => t σ H Q ∨ u σ H Q) := ⟨fun pins s σ H Q I h => h.elim (a.run pins s σ H Q I) (b.run pins s σ H Q I)⟩
theorem ps_or {st : Stmt} {t u : TS} (a : PS X st t) (b : PS X st u) : PS X st (fun D σ H => t D σ H ∨ u D σ H) := ⟨fun pins s σ H D I h => h.elim (a.run pins s σ H D I) (b.run pins s σ H D I)⟩
theorem VE.alt (c : Sl → Bool) {g g' : Sl → R Vl} (a : VE p X W e g) (b : VE p X W e g') : VE p X W e (fun S => if c S then g S else g' S) := by
  obtain ⟨t, a1, a2⟩ := a
  obtain ⟨u, b1, b2⟩ := b
  refine ⟨_, pe_or a1 b1, fun σ0 σ G H S F Q r hw => ?_⟩
  simp only at hw
  split at hw
  · exact .inl (a2 σ0 σ G H S F Q r hw)
  · exact .inr (b2 σ0 σ G H S F Q r hw)
theorem VD.alt (c : Sl → Bool) {g g' : Sl → R D} (a : VD p X W e g) (b : VD p X W e g') : VD p X W e (fun S => if c S then g S else g' S) := by
  obtain ⟨t, a1, a2⟩ := a
  obtain ⟨u, b1, b2⟩ := b
  refine ⟨_, pe_or a1 b1, fun σ0 σ G H S F Q r hw => ?_⟩
  simp only at hw
  split at hw
  · exact .inl (a2 σ0 σ G H S F Q r hw)
  · exact .inr (b2 σ0 σ G H S F Q r hw)
theorem VS.alt (c : Sl → Bool) {st : Stmt} {g g' : Sl → R Out} (a : VS X W st g) (b : VS X W st g') : VS X W st (fun S => if c S then g S else g' S) := by
  obtain ⟨t, a1, a2⟩ := a
  obtain ⟨u, b1, b2⟩ := b
  refine ⟨_, ps_or a1 b1, fun σ0 σ G H S F D r hw => ?_⟩
  simp only at hw
  split at hw
  · exact .inl (a2 σ0 σ G H S F D r hw)
  · exact .inr (b2 σ0 σ G H S F D r hw)

/-! ### dicts -/
def keyD : D → Option Key
  | .int i => some (.inl i)
  | .str z => some (.inr z)
  | _ => none
def keysD : List D → Option (List Key)
  | [] => some []
  | d :: ds => match keyD d, keysD ds with
    | some k, some r => some (k :: r)
    | _, _ => none
def kD : Key → D
  | .inl i => .int i
  | .inr z => .str z
theorem keyD_ok {d : D} {k : Key} (h : keyD d = some k) : d = kD k := by
  cases d <;> simp only [keyD] at h <;> cases h <;> rfl
theorem keysD_ok : ∀ {ds : List D} {ks : List Key}, keysD ds = some ks → ds = ks.map kD
  | [], ks, h => by cases h; rfl
  | d :: ds, ks, h => by
    simp only [keysD] at h
    split at h
    · rename_i k r h1 h2
      cases h
      rw [keyD_ok h1, keysD_ok h2]; rfl
    · cases h
theorem Fz.key {k : Key} {v : V} (h : Fz G (kD k) v) : v = kV k := by
  cases k <;> simpa [kD, Fz, kV] using h
theorem FzL.keys : ∀ {ks : List Key} {vs : List V}, FzL G (ks.map kD) vs → vs = ks.map kV
  | [], vs, h => by simpa [FzL] using h
  | k :: ks, vs, h => by
    simp only [List.map_cons, FzL] at h
    obtain ⟨v, r, rfl, h1, h2⟩ := h
    rw [h1.key, FzL.keys h2]; rfl
def putX {κ α : Type} [DecidableEq κ] (ks : List κ) (xs : List α) (k : κ) (x : α) : List κ × List α :=
  if k ∈ ks then (ks, List.zipWith (fun k' y => if k' = k then x else y) ks xs) else (ks ++ [k], xs ++ [x])
theorem putX_map {κ : Type} [DecidableEq κ] {k : κ} {v : V} : ∀ {ks : List κ} {vs : List V}, (ks.zip vs).map (fun kv => if kv.1 = k then (kv.1, v) else kv) = ks.zip (List.zipWith (fun k' y => if k' = k then v else y) ks vs)
  | [], vs => rfl
  | _ :: _, [] => rfl
  | a :: ks, b :: vs => by
    simp only [List.zip_cons_cons, List.map_cons, List.zipWith_cons_cons]
    rw [putX_map]
    split <;> simp_all
theorem putX_ok {κ : Type} [DecidableEq κ] {ks : List κ} {vs : List V} {k : κ} {v : V} (hl : ks.length = vs.length) : putK (ks.zip vs) k v = (putX ks vs k v).1.zip (putX ks vs k v).2 := by
  have hm : ((ks.zip vs).any fun kv => decide (kv.1 = k)) = true ↔ k ∈ ks := by
    rw [List.any_eq_true]
    constructor
    · rintro ⟨⟨a, b⟩, hx, e⟩
      have : a = k := by simpa using e
      exact this ▸ (List.of_mem_zip hx).1
    · intro hk
      obtain ⟨j, hj, e⟩ := List.getElem_of_mem hk
      exact ⟨(ks[j], vs[j]'(by omega)), by
        rw [← List.getElem_zip (h := by simp; omega)]
        exact List.getElem_mem _, by simp [e]⟩
  unfold putK putX
  by_cases h : k ∈ ks
  · rw [if_pos (hm.mpr h), if_pos h, putX_map]
  · rw [if_neg (fun h' => h (hm.mp h')), if_neg h]
    simp only
    rw [List.zip_append hl]
    rfl
theorem putX_len {κ α : Type} [DecidableEq κ] {ks : List κ} {xs : List α} {k : κ} {x : α} (h : ks.length = xs.length) : (putX ks xs k x).1.length = (putX ks xs k x).2.length := by
  unfold putX
  split <;> simp [h]
theorem fzL_zipWith {κ : Type} [DecidableEq κ] {k : κ} {d : D} {v : V} (hz : Fz G d v) : ∀ {ks : List κ} {ds : List D} {vs : List V}, FzL G ds vs → FzL G (List.zipWith (fun k' y => if k' = k then d else y) ks ds) (List.zipWith (fun k' y => if k' = k then v else y) ks vs)
  | [], ds, vs, h => .nil
  | a :: ks, [], vs, h => by simp only [FzL] at h; subst h; exact .nil
  | a :: ks, x :: ds, vs, h => by
    simp only [FzL] at h
    obtain ⟨u, r, rfl, h1, h2⟩ := h
    simp only [List.zipWith_cons_cons]
    refine .cons ?_ (fzL_zipWith hz h2)
    split
    · exact hz
    · exact h1
theorem putX_fz {κ : Type} [DecidableEq κ] {k : κ} {d : D} {v : V} {ks : List κ} {ds : List D} {vs : List V} (hz : Fz G d v) (h : FzL G ds vs) : (putX ks ds k d).1 = (putX ks vs k v).1 ∧ FzL G (putX ks ds k d).2 (putX ks vs k v).2 := by
  unfold putX
  split
  · exact ⟨rfl, fzL_zipWith hz h⟩
  · exact ⟨rfl, h.append (.cons hz .nil)⟩
def gDnewK : Sl → R Vl := fun S => .ok ⟨false, 1, .dK [] []⟩ S
def gDnewT : Sl → R Vl := fun S => .ok ⟨false, 1, .dT [] []⟩ S
theorem ve_dnewK : VE true X W (.Dict [] [] pos) gDnewK := ⟨_, pe_dnewK, fun σ0 σ G H S F Q r hw p hp =>
  hw (.ref p) [p] G _ F (r.new hp) (Gr.new' r hp) (VP.one r hp ⟨p, [], [], rfl, upd_same, rfl, rfl, rfl, rfl⟩)⟩
theorem ve_dnewT : VE true X W (.Dict [] [] pos) gDnewT := ⟨_, pe_dnewT, fun σ0 σ G H S F Q r hw p hp =>
  hw (.ref p) [p] G _ F (r.new hp) (Gr.new' r hp) (VP.one r hp ⟨p, [], [], rfl, upd_same, rfl, rfl, rfl, rfl⟩)⟩
theorem SR.dT {i k : Nat} {pin : Bool} {ks : List (List Key)} {ds : List D} (r : SR σ0 G H σ S F) (hc : S[i]? = some ⟨pin, some (k + 1, .dT ks ds)⟩) : ∃ a vs f, σ[i]? = some (some (.ref a)) ∧ H a = some (.dT (ks.zip vs)) ∧ ks.length = ds.length ∧ F i = a :: f ∧ OwL (Ow G H k) ds vs f := by
  obtain ⟨_, h2, _⟩ := r.row i _ hc
  obtain ⟨v, e1, a, vs, f, rfl, h, l, e, z⟩ := h2 _ _ rfl
  exact ⟨a, vs, f, e1, h, l, e, z⟩
theorem SR.dK {i k : Nat} {pin : Bool} {ks : List Key} {ds : List D} (r : SR σ0 G H σ S F) (hc : S[i]? = some ⟨pin, some (k + 1, .dK ks ds)⟩) : ∃ a vs f, σ[i]? = some (some (.ref a)) ∧ H a = some (.dK (ks.zip vs)) ∧ ks.length = ds.length ∧ F i = a :: f ∧ OwL (Ow G H k) ds vs f := by
  obtain ⟨_, h2, _⟩ := r.row i _ hc
  obtain ⟨v, e1, a, vs, f, rfl, h, l, e, z⟩ := h2 _ _ rfl
  exact ⟨a, vs, f, e1, h, l, e, z⟩
def dPut (x : D) (k : D) (d : D) : Option D := match x, k with
  | .dT ks ds, .tup kd => (match keysD kd with
    | some kk => if ks.length < 16777216 then some (.dT (putX ks ds kk d).1 (putX ks ds kk d).2) else none
    | none => none)
  | .dK ks ds, k => (match keyD k with
    | some kk => if ks.length < 16777216 then some (.dK (putX ks ds kk d).1 (putX ks ds kk d).2) else none
    | none => none)
  | _, _ => none
/-- d[k] = x, the values frozen -/
def gDPut (i : Nat) (gx gk : Sl → R D) : Sl → R Out := fun S => (gx S).bind fun d S1 => match S1[i]? with
  | some ⟨_, some (_, _)⟩ => (gk S1).bind fun y S2 => (match S2[i]? with
    | some ⟨_, some (1, c)⟩ => (match dPut c y d with
      | some c' => .ok .nx (S2.put i (some (1, c')))
      | none => .stuck)
    | _ => .stuck)
  | _ => .stuck
theorem vs_dput (i : Nat) {x : Str} {ej : Expr} {xp spos : Pos} {gx gk : Sl → R D} (h : VD p X W e gx) (hj : VD q X W ej gk) (hu : X.A.units + 64 < cLine) (hN : X.N[i]? = some x := by rfl) (hv : Vis X.env.scope x := by first | exact Or.inl rfl | exact Or.inr (Or.inl rfl) | exact Or.inr (Or.inr rfl)) (hd : (x == ("__debug__" : Str)) = false := by decide)
    (hcd : (x == ("__classdict__" : Str)) = false := by decide) (hs : swapsWith e (some (.Subscript (.Name x xp) ej spos)) pos.line X.env = pure false := by rfl) : VS X W (.Assign [.Subscript (.Name x xp) ej spos] e pos) (gDPut i gx gk) := by
  obtain ⟨t, t1, t2⟩ := h
  obtain ⟨u, u1, u2⟩ := hj
  refine ⟨_, ps_dput (by omega) (pe_var hN hv hd hcd) u1 t1 hs, fun σ0 σ G H S F Ed r hw => ?_⟩
  refine VD.sthen (t := t) t2 r hw fun d S1 v G1 H1 F1 r1 g1 z1 hw1 => ?_
  split at hw1
  case h_2 => exact hw1.elim
  rename_i pin k0 d0 hc
  obtain ⟨_, q2, _⟩ := r1.row i _ hc
  obtain ⟨vx, hσ, _⟩ := q2 _ _ rfl
  refine ⟨vx, hσ, ?_⟩
  refine VD.sthen (t := u) u2 r1 hw1 fun y S2 w G2 H2 F2 r2 g2 z2 hw2 => ?_
  split at hw2
  case h_2 => exact hw2.elim
  rename_i pin1 c hc1
  have zd := z1.inc g2.up
  cases hp : dPut c y d with
  | none => rw [hp] at hw2; exact hw2.elim
  | some c' =>
    rw [hp] at hw2
    have fin : ∀ {a : Addr} {o : HO}, σ[i]? = some (some (.ref a)) → F2 i = [a] → (∀ us, o ≠ .tup us) → Ow G2 (upd H2 a o) 1 c' (.ref a) [a] → Ed.nx σ (upd H2 a o) := fun {a o} hσ' hF ho hO => by
      have hu' : ∀ b, b ∉ F2 i → ∀ o', H2 b = some o' → upd H2 a o b = some o' := fun b hb o' ho' => by
        rw [upd_ne fun e : b = a => hb (by rw [e, hF]; simp)]; exact ho'
      refine hw2 σ G2 _ (fpPut F2 i [a]) (r2.mut' hc1 rfl hσ' hu' hO (by simp) (fun b hb => .inl (by rw [hF]; exact hb)) (upd_ntup ho)) ((g1.trans g2).mut (T' := S1) hu' fun b hb => .inr (.inr (by rw [hF]; exact hb)))
    unfold dPut at hp
    split at hp
    · rename_i ks ds kd
      split at hp
      case h_2 => cases hp
      rename_i kk hkk
      split at hp
      case isFalse => cases hp
      rename_i hlen
      cases hp
      obtain ⟨a, vs, f, hσ', hH, hl, hF, ol⟩ := r2.dT hc1
      have fz := OwL.fz0 ol
      have hf : f = [] := by
        have : ∀ b ∈ f, False := OwL.dom ol (C := fun _ => False) fun d v f h => by obtain ⟨_, rfl⟩ := h; simp
        cases f with
        | nil => rfl
        | cons b f => exact (this b (by simp)).elim
      subst hf
      rw [hσ] at hσ'
      cases hσ'
      rw [keysD_ok hkk] at z2
      simp only [Fz] at z2
      obtain ⟨b, us, rfl, hb, hus⟩ := z2
      rw [hus.keys] at hb
      have hl' : ks.length = vs.length := by rw [fz.length]; exact hl
      refine ⟨a, _, rfl, .inr ⟨ks.zip vs, kk, b, hH, rfl, r2.inc _ _ hb, by rw [List.length_zip, ← hl', Nat.min_self, sizeLine_eq]; exact hlen, rfl⟩, ?_⟩
      rw [putX_ok hl']
      obtain ⟨p1, p2⟩ := putX_fz (ks := ks) (k := kk) zd fz
      exact fin hσ hF (fun _ h => nomatch h) ⟨a, _, [], rfl, by rw [p1]; exact upd_same, putX_len hl, rfl, owL_fz p2⟩
    · rename_i ks ds
      split at hp
      case h_2 => cases hp
      rename_i kk hkk
      split at hp
      case isFalse => cases hp
      rename_i hlen
      cases hp
      obtain ⟨a, vs, f, hσ', hH, hl, hF, ol⟩ := r2.dK hc1
      have fz := OwL.fz0 ol
      have hf : f = [] := by
        have : ∀ b ∈ f, False := OwL.dom ol (C := fun _ => False) fun d v f h => by obtain ⟨_, rfl⟩ := h; simp
        cases f with
        | nil => rfl
        | cons b f => exact (this b (by simp)).elim
      subst hf
      rw [hσ] at hσ'
      cases hσ'
      rw [keyD_ok hkk] at z2
      have hl' : ks.length = vs.length := by rw [fz.length]; exact hl
      refine ⟨a, _, rfl, .inl ⟨ks.zip vs, kk, hH, z2.key, by rw [List.length_zip, ← hl', Nat.min_self, sizeLine_eq]; exact hlen, rfl⟩, ?_⟩
      rw [putX_ok hl']
      obtain ⟨p1, p2⟩ := putX_fz (ks := ks) (k := kk) zd fz
      exact fin hσ hF (fun _ h => nomatch h) ⟨a, _, [], rfl, by rw [p1]; exact upd_same, putX_len hl, rfl, owL_fz p2⟩
    · cases hp
end
end VL

set_option Elab.async false
set_option linter.all false
set_option autoImplicit false
set_option maxRecDepth 100000
namespace VL
open PySem PySem.Spec L2
open PyProof.Rows hiding St

section
variable {prog : Program} {w : World} {A : Around} {E : Value → Shared → Prop} {s : Shared} {d r : Addr} {o : Obj} {es : Array DictEntry} {ep : Nat}
theorem meets_keys_raw (d : Addr) (hd : (d == sysModules) = false) :
    MeetsIn prog w (Builtin.«dict.keys» ⟨[.ref d], []⟩) (fun _ R s => s.TypeIs (.ref d) "dict" ∧
      R (.ok (.ret (.ref s.heap.objs.size))) { s with heap := s.heap.push { cls := .type "dict_keys", data := .fields #[.ref d] } }) :=
  .of_wp fun A R s ⟨hm, h⟩ => by
    refine wpAny_bind ?_
    unfold Builtin.Dict.noArgs
    refine wpAny_bind (wpAny_notOrdered_dict hm ?_)
    show wpAny _ _ (pure d) _ _ s
    refine wpAny_pure ?_
    show wpAny _ _ (Builtin.Dict.showsAll d >>= _) _ _ s
    unfold Builtin.Dict.showsAll
    rw [if_neg (by rw [hd]; exact Bool.false_ne_true)]
    refine wpAny_bind (wpAny_pure ?_)
    exact wpAny_bind (wpAny_newObj_type (wpAny_pure ⟨_, rfl, h⟩))
theorem pyIter_keys_raw {v : Addr} {Q : Value → Shared → Prop} (hv : PySem.W.KdlKeysView s.heap v d) (ho : s.heap.get? d = some o) (hdat : o.data = .dict es ep)
    (hQ : Q (.ref s.heap.objs.size) { s with heap := s.heap.push { cls := .type "dict_keyiterator", data := .fields #[.ref d, .int 0 0, .int es.size 0, .int ep 0] } }) :
    wpAny (model prog w) A (pyIter (.ref v)) Q E s := by
  obtain ⟨ov, hov, hcv, hdv⟩ := id hv
  refine wpAny_pyIter_slot hv.typeIs PySem.W.kdl_slot_keys_iter (wpAny_call_entry PySem.W.kdl_slot_keys_iter hv.typeIs PySem.W.kdl_entry_keys_iter ?_ (PySem.W.kdl_args_keys_iter _))
  unfold Builtin.«dict_keys.__iter__»
  refine wpAny_bind (wpAny_pure ?_)
  refine wpAny_bind ?_
  unfold Builtin.Dict_items.dictOf
  refine wpAny_bind (wpAny_field hov hdv (x := .ref d) rfl (wpAny_pure ?_))
  refine wpAny_bind ?_
  unfold Builtin.Dict_items.newIterator
  refine wpAny_bind (wpAny_dictEntries ho hdat ?_)
  refine wpAny_bind (wpAny_dictEpoch ho hdat ?_)
  have hown : Builtin.Dict_items.ownsTuple "dict_keyiterator" = false := by decide
  simp only [hown, Bool.false_eq_true, if_false]
  refine wpAny_newObj_type (wpAny_pure ⟨_, rfl, "dict_keyiterator", _, ⟨_, Heap.get?_push_size _ rfl, rfl⟩, PySem.F.slot_dict_keyiterator_next.lookup, ?_⟩)
  simpa [rawInt] using hQ
theorem kdl_rawKeys (hne : r ≠ d) (hd : o.data = .dict es ep) :
    PySem.W.KdlSrc prog w "dict_keys" r d es.size (fun i v => ∃ en : DictEntry, es[i]? = some en ∧ v = en.key) (fun h => PySem.W.KdlKeysView h r d ∧ h.get? d = some o) where
  type := fun _ hm => hm.1.typeIs
  there := fun _ hm => ⟨let ⟨_, ho, _⟩ := hm.1; Heap.lt_size ho, Heap.lt_size hm.2⟩
  keep := fun _ _ hm hk => ⟨let ⟨o, ho, x⟩ := hm.1; ⟨o, hk r (.inl rfl) o ho, x⟩, hk d (.inr rfl) _ hm.2⟩
  notList := by decide
  notTuple := by decide
  hint := fun _ _ _ _ hm hq => PySem.W.kdl_hint_keys hm.1.typeIs hq
  iter := fun _ s hh hm => ⟨_, _, (fun _ _ hq => pyIter_keys_raw hm.1 hm.2 hd hq), walks_raw hh _ d (Nat.ne_of_lt (Heap.lt_size hm.2)) hd, ⟨⟨_, Heap.get?_push_size _ rfl, rfl, rfl⟩, Heap.get?_push_of_some _ hm.2⟩⟩
end
section
variable {X : Cx} {W : WX} {p q p' : Bool} {e ea eb : Expr} {es : List Expr} {pos : Pos}
variable {σ0 σ : St} {G H G1 H1 G2 H2 : Hp} {F F1 F2 : Fps} {S S1 S2 : Sl}
/-- list(d.keys()), the keys tuples -/
theorem pe_listKeysT {td : TE} {x1 apos cpos : Pos} (hc : X.calm = true) (he : PE X e td) (hg : Gl X "list") (hm : X.mg "list" = none) (hbase : attributeBase e "keys" X.env (eval e X.env) = eval e X.env := by rfl) (hline : (apos.endLine == cpos.line) = true := by rfl) :
    PE X (.Call (.Name "list" x1) [.Call (.Attribute e "keys" apos) [] [] cpos] [] pos) (fun σ H Q => td σ H fun x H1 => ∃ d kvs, x = .ref d ∧ H1 d = some (.dT kvs) ∧ ∀ p bs, H1 p = none → IsKeys H1 kvs bs → Q (.ref p) (upd H1 p (.lst (bs.map V.ref)))) := by
  refine ⟨fun pins s σ H Q I h => ?_⟩
  refine Call_ (ld_blt I hg hm (by first | exact PySem.boot_list | exact PyProof.Rows.boot_list | decide +kernel) ?_)
  refine PyProof.Rows.callWith_type1 (PyProof.Rows.args_cons ?_ rfl) rfl rfl
  refine wpAny_Call_method (T := "dict") (id := "dict.keys") hbase rfl hline PySem.F.plainAttrs_dict PySem.F.slot_dict_keys PySem.F.type_dict_keys (thn (he.run pins s σ H _ I h) fun u s1 ⟨x, H1, I1, rx, d, kvs, ex, hd, q⟩ => ?_)
  subst ex
  obtain rfl : u = Value.ref d := rx
  obtain ⟨z, hs, ks, pr, o, es, ep, ho, hx, hdt, he', hn⟩ := (show ObjOk X.prog X.w H1 s1.heap d (.dT kvs) from I1.hok d _ hd)
  have hty : s1.TypeIs (.ref d) "dict" := ⟨o, ho, hx.1⟩
  refine ⟨hty, fun a ea => by cases ea; exact ⟨o, ho, hx.2.1⟩, ?_⟩
  have I2 : Inv X pins σ H1 { s1 with heap := s1.heap.push { cls := .type "dict_keys", data := .fields #[.ref d] } } := I1.kept (t' := s1.toks) fun b ob q => Heap.get?_push_of_some _ q
  show wpAny _ _ (callWith cpos (.builtin "dict.keys") [.ref d] [] []) _ X.xe s1
  refine method_meetsIn PySem.F.slot_dict_keys PySem.F.entry_dict_keys rfl (PySem.evalArgs_none ⟨rfl, hty, PySem.F.args_dict_keys_1 _, _, meets_keys_raw d hs, hty, ?_⟩)
  refine PyProof.Rows.args_nil ?_
  have l1 : es.size = ks.length := size_of_entries he'
  have l2 : kvs.length = ks.length := Paired.length pr
  have hlt : d < s1.heap.objs.size := Heap.lt_size ho
  refine PySem.W.kdl_call (kdl_rawKeys (r := s1.heap.objs.size) (d := d) (Nat.ne_of_gt hlt) hdt) (I1.ok.hd hc) ⟨⟨_, Heap.get?_push_size _ rfl, rfl, rfl⟩, Heap.get?_push_of_some _ ho⟩ (by omega) fun h' tk acc' c' kp e it => ?_
  have ea : acc'.toList = ks.map fun x => Value.ref x.2.1 := by
    have hl : acc'.toList.length = ks.length := by rw [Array.length_toList, it.1]; exact l1
    apply List.ext_getElem?
    intro j
    rw [List.getElem?_map]
    cases hj : acc'.toList[j]? with
    | none =>
      have h1 := List.getElem?_eq_none_iff.mp hj
      rw [List.getElem?_eq_none (by omega)]
      all_goals rfl
    | some v =>
      obtain ⟨en, hen, hv⟩ := it.2 j v (by rw [← Array.getElem?_toList]; exact hj)
      have qe := entry_at he' j
      rw [hen] at qe
      cases hb : ks[j]? with
      | none =>
        rw [hb] at qe
        exact nomatch (show some en = none from qe)
      | some b =>
        rw [hb] at qe
        have e2 : en = entryOfKey (tupleKind (mixKind X.prog X.w)) b := Option.some.inj qe
        rw [hv, e2]
        all_goals rfl
  have hN := I2.hok.fresh (Nat.le_refl _)
  refine ⟨.ref _, upd H1 _ (.lst ((ks.map fun x => x.2.1).map V.ref)), I2.laid (t' := tk) kp (Nat.le_refl _) ⟨by rw [List.length_map, List.length_map]; omega, acc'.toList, c', ?_, by rw [Array.toArray_toList]; exact e⟩, rfl, q _ (ks.map fun x => x.2.1) hN (isKeys_of pr)⟩
  have eb : acc'.toList = (ks.map fun x => x.2.1).map Value.ref := by rw [ea, List.map_map]; all_goals rfl
  rw [eb]; exact vals_refs _
def gListKeys (i : Nat) : Sl → R Vl := fun S => match S[i]? with
  | some ⟨_, some (1, .dT ks _)⟩ => .ok ⟨false, 1, .lst (ks.map fun k => D.tup (k.map kD))⟩ S
  | _ => .stuck
theorem fz_keys {ks : List Key} : FzL G (ks.map kD) (ks.map kV) := by
  induction ks with
  | nil => exact .nil
  | cons k ks ih => exact .cons (by cases k <;> rfl) ih
theorem fzL_isKeys (ht : ∀ a us, H a = some (.tup us) → G a = some (.tup us)) : ∀ {ks : List (List Key)} {vs : List V} {bs : List Addr}, ks.length = vs.length → IsKeys H (ks.zip vs) bs → FzL G (ks.map fun k => D.tup (k.map kD)) (bs.map V.ref)
  | [], _, _, _, .nil => .nil
  | _ :: _, [], _, hl, _ => by simp at hl
  | k :: ks, v :: vs, _, hl, .cons (b := b) h t => .cons ⟨b, _, rfl, ht _ _ h, fz_keys⟩ (fzL_isKeys ht (by simpa using hl) t)
theorem ve_listKeys (i : Nat) {x : Str} {xp x1 apos cpos : Pos} (hc : X.calm = true) (hg : Gl X "list" := by rfl) (hm : X.mg "list" = none) (hN : X.N[i]? = some x := by rfl) (hv : Vis X.env.scope x := by first | exact Or.inl rfl | exact Or.inr (Or.inl rfl) | exact Or.inr (Or.inr rfl)) (hd : (x == ("__debug__" : Str)) = false := by decide)
    (hcd : (x == ("__classdict__" : Str)) = false := by decide) (hbase : attributeBase (.Name x xp) "keys" X.env (eval (.Name x xp) X.env) = eval (.Name x xp) X.env := by rfl) (hline : (apos.endLine == cpos.line) = true := by rfl) :
    VE true X W (.Call (.Name "list" x1) [.Call (.Attribute (.Name x xp) "keys" apos) [] [] cpos] [] pos) (gListKeys i) := by
  refine ⟨_, pe_listKeysT hc (pe_var hN hv hd hcd) hg hm hbase hline, fun σ0 σ G H S F Q r hw => ?_⟩
  unfold gListKeys at hw
  split at hw
  case h_2 => exact hw.elim
  rename_i pin ks ds hcell
  obtain ⟨a, vs, f, hσ, hH, hl, hF, ol⟩ := r.dT hcell
  refine ⟨_, hσ, a, ks.zip vs, rfl, hH, fun p bs hp hk => ?_⟩
  exact new_lst (p := true) (S' := S) r (.refl r) (fzL_isKeys r.tp (by rw [ol.length, hl]) hk) hw p hp
end
end VL

set_option Elab.async false
set_option linter.all false
set_option autoImplicit false
set_option maxRecDepth 100000
namespace VL
open PySem PySem.Spec L2
open PyProof.Rows hiding St

/-! ## own errors -/
/-- what the written part says of the error class x at C, of its base at B -/
structure ErrTxt (K : PySem.W.Frag) (mg : Str → Option Value) (x : Str) (C B fI : Addr) : Prop where
  oex : OexC K C
  gC : mg x = some (.ref C)
  iC : PySem.W.findIn K (.ref C) "__init__" = some (some (.ref fI))
  tI : PySem.W.typeIn K (.ref fI) = some (.type "function")
  noW : PySem.W.findIn K (.ref C) "what" = some none
  gB : mg "PolyError" = some (.ref B)
  sB : PySem.W.specialIn K (.ref B) "__getattribute__" = some (some (.builtin "type.__getattribute__"))
  rB : PySem.W.readsIn K B (.type "type") = true
  vB : PySem.W.findCls K (.ref B) (.type "type") "__init__" = some (.val (.builtin "ValueError.__init__"))
  ga : PySem.W.findIn K (.ref C) "__getattribute__" = some (some (.builtin "BaseException.__getattribute__"))
  gg : PySem.W.findIn K (.ref C) "__getattr__" = some none
  hdC : PySem.W.hasDictIn K C = true
section
variable {X : Cx} {W : WX} {p q p' : Bool} {e ea eb : Expr} {es : List Expr} {pos : Pos}
variable {σ0 σ : St} {G H G1 H1 G2 H2 : Hp} {F F1 F2 : Fps} {S S1 S2 : Sl}
theorem pe_veinitO {x : Str} {C B fI : Addr} {ta : TA} {p1 p2 : Pos} {pl : Sem Bool} (T : ErrTxt X.K X.mg x C B fI) (hg : Gl X "PolyError") (ha : PA X (e :: es) ta)
    (hc : eval (.Call (.Attribute (.Name "PolyError" p1) "__init__" p2) (e :: es) [] pos) X.env = (do
      let ov ← eval (.Name "PolyError" p1) X.env
      standAt p2.atName
      let (f, first) ← holding [ov] (getMethod ov "__init__" pl)
      callWith pos f first (backTo pos (starEach (e :: es) X.env)) (backToKw pos (keywordEach [] X.env))) := by rfl)
    (he : starEach (e :: es) X.env = (false, eval e X.env) :: starEach es X.env := by rfl) (hpl : (backTo pos (starEach es X.env)).any (·.1) = false := by rfl) :
    PE X (.Call (.Attribute (.Name "PolyError" p1) "__init__" p2) (e :: es) [] pos) (tVeI X.K ta) := by
  refine ⟨fun pins s σ H Q I h => ?_⟩
  refine PySem.W.methodCall_KW (ld_glob I hg T.gB ?_ (by decide)) hc
  refine PySem.W.method_cls I.kIn T.sB (PySem.W.cls_value I.kIn T.rB T.vB (by decide +kernel) ?_)
  show wpAny _ _ (callWith pos (Value.builtin "ValueError.__init__") [] (backTo pos (starEach (e :: es) X.env)) []) _ _ _
  refine PyProof.Rows.callWith_method1 (thn (ha.run pos pins _ σ H _ (I.tok _) h) fun us s1 ⟨vs, H1, I1, r1, a, C, ws, ev, hl, T, ea, q⟩ => ?_) he hpl
  subst ev
  cases r1 with
  | @cons _ u0 _ ur ra rw' =>
    obtain rfl : u0 = Value.ref a := ra
    have hlen : ur.length ≤ sizeLine := by
      rw [← Paired.length rw', sizeLine_eq]
      omega
    exact oinit_ok T I1 ea hlen fun s' J => ⟨.non, H1, J, rfl, q⟩
def nmSW : List Str := [("self" : Str), ("what" : Str)]
def spInit (C : Addr) : Sp := fun vs H Q E => ∃ a z, vs = [.ref a, .str z] ∧ z.length ≤ 1000 ∧ H a = some (exo a C none) ∧ ∀ dx, H dx = none → dx ≠ a → Q .non (upd (upd H dx (exd dx [("what", .str z)])) a (exo a C (some dx)))
theorem spInit_len {C : Addr} : ∀ vs H Q E, spInit C vs H Q E → vs.length = 2 := fun vs H Q E ⟨a, z, e, _⟩ => by rw [e]; rfl
/-- the body of __init__ -/
theorem init_pss {x pre : Str} {C B fI : Addr} {j : Nat} {p1 p2 p3 p4 p5 p6 p7 p8 q1 q2 q3 q4 : Pos} {pl : Sem Bool} {vs : List V} {Q : VK} {E : XK} {N : List Str} (T : ErrTxt X.K X.mg x C B fI) (hN : X.N = nmSW) (hs0 : X.env.scope.names.lookup ("self" : Str) = some .local) (hs1 : X.env.scope.names.lookup ("what" : Str) = some .local)
    (hp : pre.length ≤ 1000) (hg : Gl X "PolyError")
    (hc : eval (.Call (.Attribute (.Name "PolyError" p1) "__init__" p2) [.Name "self" p3, .BinOp (.Constant (.str pre) j p4) .Add (.Name "what" p5) p6] [] p7) X.env = (do
      let ov ← eval (.Name "PolyError" p1) X.env
      standAt p2.atName
      let (f, first) ← holding [ov] (getMethod ov "__init__" pl)
      callWith p7 f first (backTo p7 (starEach [.Name "self" p3, .BinOp (.Constant (.str pre) j p4) .Add (.Name "what" p5) p6] X.env)) (backToKw p7 (keywordEach [] X.env))))
    (h : spInit C vs H Q E) : ∃ t, PSs X [.Expr (.Call (.Attribute (.Name "PolyError" p1) "__init__" p2) [.Name "self" p3, .BinOp (.Constant (.str pre) j p4) .Add (.Name "what" p5) p6] [] p7) p8, .Assign [.Attribute (.Name "self" q1) "what" q2] (.Name "what" q3) q4] t ∧
      t { nx := fun _ H' => Q .non H', rt := Q } (start nmSW vs) H := by
  obtain ⟨a, z, rfl, hz, ha, k⟩ := h
  have v0 : Vis X.env.scope ("self" : Str) := .inl hs0
  have v1 : Vis X.env.scope ("what" : Str) := .inl hs1
  have n0 : X.N[0]? = some ("self" : Str) := by rw [hN]; rfl
  have n1 : X.N[1]? = some ("what" : Str) := by rw [hN]; rfl
  refine ⟨_, pss_cons (ps_expr (pe_veinitO (pl := pl) T hg (pa_cons (pe_var n0 v0) (pa_cons (pe_op op_add_str pe_str (pe_var n1 v1)) pa_nil)) hc)) (pss_one (ps_ost (pe_var n0 v0) (pe_var n1 v1))), ?_⟩
  refine ⟨.ref a, rfl, .str z, rfl, pre, z, rfl, rfl, by rw [sizeLine_eq]; omega, a, C, [.str (pre ++ z)], rfl, by simp, T.oex, ha, ?_⟩
  refine ⟨.str z, rfl, .ref a, rfl, a, C, rfl, T.oex, T.noW, .inl ⟨ha, fun dx n ne => ?_⟩⟩
  exact k dx n ne
end
section
variable {P : Program} {w : World} {K : PySem.W.Frag} {mg : Str → Option Value} {base : Heap}
theorem init_ok {x qual pre : Str} {st : Stmt} {C B fI : Addr} {fd : FuncData} {j : Nat} {p1 p2 p3 p4 p5 p6 p7 p8 q1 q2 q3 q4 : Pos} (Fu : Fun K "__init__" qual st fI fd) (T : ErrTxt K mg x C B fI) (Sc : FnScope nmSW nmSW (defScope st)) (hp : pre.length ≤ 1000)
    (hs0 : (defScope st).names.lookup ("self" : Str) = some .local) (hs1 : (defScope st).names.lookup ("what" : Str) = some .local) (hs2 : (defScope st).names.lookup ("PolyError" : Str) = some .globalImplicit)
    (hb : defBody st = [.Expr (.Call (.Attribute (.Name "PolyError" p1) "__init__" p2) [.Name "self" p3, .BinOp (.Constant (.str pre) j p4) .Add (.Name "what" p5) p6] [] p7) p8, .Assign [.Attribute (.Name "self" q1) "what" q2] (.Name "what" q3) q4])
    (hG : ∀ (cdv : Value) (A : Around) (outer : List Env) (s : Shared) (H : Hp) (E : XK), Gl (cxOf (L2.CX P w) P w K mg base nmSW qual (defScope st) fI cdv A outer s H E) ("PolyError" : Str))
    (hC : ∀ (cdv : Value) (A : Around) (outer : List Env) (s : Shared) (H : Hp) (E : XK), ∃ pl : Sem Bool, eval (.Call (.Attribute (.Name "PolyError" p1) "__init__" p2) [.Name "self" p3, .BinOp (.Constant (.str pre) j p4) .Add (.Name "what" p5) p6] [] p7) (cxOf (L2.CX P w) P w K mg base nmSW qual (defScope st) fI cdv A outer s H E).env = (do
      let ov ← eval (.Name "PolyError" p1) (cxOf (L2.CX P w) P w K mg base nmSW qual (defScope st) fI cdv A outer s H E).env
      standAt p2.atName
      let (f, first) ← holding [ov] (getMethod ov "__init__" pl)
      callWith p7 f first (backTo p7 (starEach [.Name "self" p3, .BinOp (.Constant (.str pre) j p4) .Add (.Name "what" p5) p6] (cxOf (L2.CX P w) P w K mg base nmSW qual (defScope st) fI cdv A outer s H E).env)) (backToKw p7 (keywordEach [] (cxOf (L2.CX P w) P w K mg base nmSW qual (defScope st) fI cdv A outer s H E).env)))) :
    FnOk P w K mg base (L2.CX P w) 1 fI fd nmSW (spInit C) := by
  refine Fu.okX Sc (fun vs H Q E h => spInit_len vs H Q E h) fun cdv A outer s H vs Q E hr hsp => ?_
  obtain ⟨pl, hc⟩ := hC cdv A outer s H E
  rw [hb]
  exact init_pss (X := cxOf (L2.CX P w) P w K mg base nmSW qual (defScope st) fI cdv A outer s H E) (N := nmSW) (pl := pl) T rfl hs0 hs1 hp (hG cdv A outer s H E) hc hsp
end
section
variable {X : Cx} {W : WX} {p q p' : Bool} {e ea eb : Expr} {es : List Expr} {pos : Pos}
variable {σ0 σ : St} {G H G1 H1 G2 H2 : Hp} {F F1 F2 : Fps} {S S1 S2 : Sl}
/-- raise x(e) -/
def gRaise (C : Addr) (g : Sl → R D) : Sl → R Out := fun S => (g S).bind fun d S1 => match d with
  | .str z => if z.length ≤ 1000 then .err C (some ("what", .str z)) S1 else .stuck
  | _ => .stuck
theorem vs_raise {x : Str} {C B fI : Addr} {fd : FuncData} {k : Nat} {xp p2 : Pos} {g : Sl → R D} (h : VD p X W e g) (T : ErrTxt X.K X.mg x C B fI) (F1 : FnOk X.prog X.w X.K X.mg X.base (L2.CX X.prog X.w) k fI fd nmSW (spInit C)) (hr : Room (k + 1) X.A) (hb : Binds X.K fd nmSW []) (hc : X.calm = true) (tk : Takes X W) (hg : Gl X x := by rfl)
    (hdb : (x == ("__debug__" : Str)) = false := by decide) (he : starEach [e] X.env = (false, eval e X.env) :: starEach [] X.env := by rfl) (hpl : (backTo p2 (starEach [] X.env)).any (·.1) = false := by rfl) : VS X W (.Raise (some (.Call (.Name x xp) [e] [] p2)) none pos) (gRaise C g) := by
  obtain ⟨t, t1, t2⟩ := h
  refine ⟨_, ps_raise hc tk (pmk_oex T.oex T.iC T.tI F1 hr hb .nil passL hg T.gC (pa_cons t1 pa_nil he) hdb he hpl), fun σ0 σ G H S F D r hw => ?_⟩
  refine VD.sthen (t := t) t2 r hw fun d S1 v G1 H1 F1' r1 g1 z1 hw1 => ?_
  cases d <;> first | exact hw1.elim | skip
  rename_i z
  simp only at hw1
  split at hw1
  case isFalse => exact hw1.elim
  rename_i hz
  simp only [Fz] at z1
  subst z1
  refine ⟨by simp, fun a ha => ⟨a, z, rfl, hz, upd_same, fun dx hdx hne => ⟨rfl, dx, [("what", .str z)], upd_same, by rw [upd_ne hne, upd_same], ?_, ?_⟩⟩⟩
  · rw [upd_ne hne] at hdx; exact hdx
  · rw [upd_ne hne] at hdx
    have e1 : upd (del (upd (upd (upd H1 a (exo a C none)) dx (exd dx [("what", V.str z)])) a (exo a C (some dx))) a) dx (.xd [("what", V.str z)]) = upd H1 dx (.xd [("what", V.str z)]) := by
      funext b
      by_cases hb : b = dx
      · subst hb; rw [upd_same, upd_same]
      · rw [upd_ne hb, upd_ne hb]
        by_cases hba : b = a
        · subst hba; rw [del_same, ha]
        · rw [del_ne hba, upd_ne hba, upd_ne hb, upd_ne hba]
    rw [e1]
    exact hw1 σ (some dx) (upd G1 dx (.xd _)) _ F1' (r1.newG hdx) ((Gr.refl r1).newG r1 hdx) ⟨dx, [("what", V.str z)], .str z, rfl, upd_same, by rfl, rfl⟩
end
end VL

set_option Elab.async false
set_option linter.all false
set_option autoImplicit false
set_option maxRecDepth 100000
namespace VL
open PySem PySem.Spec L2
open PyProof.Rows hiding St

section
variable {X : Cx} {W Wout : WX} {p q p' : Bool} {e ea eb : Expr} {es : List Expr} {pos : Pos} {sts : List Stmt}
variable {σ0 σ : St} {G H G1 H1 G2 H2 : Hp} {F F1 F2 : Fps} {S S1 S2 : Sl}
def tVS (W : WX) (g : Sl → R Out) : TS := fun D σ H => ∃ σ0 G S F, SR σ0 G H σ S F ∧ (g S).wp (OkS σ0 G H S F D) (OkX σ0 G H S F W)
theorem VSs.can {g : Sl → R Out} (h : VSs X W sts g) : PSs X sts (tVS W g) := by
  obtain ⟨t, h1, h2⟩ := h
  exact ⟨fun pins s σ H D I ⟨σ0, G, S, F, r, hw⟩ => h1.run pins s σ H D I (h2 σ0 σ G H S F D r hw)⟩
/-! ### error.what in its suite -/
theorem pe_what {a : Addr} {oe : Obj} {cls : Value} {d : Option Addr} {pn : List (Addr × Obj)} {te : TE} {x : Str} {C B fI : Addr} (T : ErrTxt X.K X.mg x C B fI) (hz : Zc cls d oe) (hf : ∃ vs, oe.data = .fields vs) (he : PE (X.suite a ((a, oe) :: pn)) e te)
    (hb : attributeBase e "what" X.env (eval e X.env) = eval e X.env := by rfl) :
    PE (X.suite a ((a, oe) :: pn)) (.Attribute e "what" pos) (fun σ H Q => te σ H fun x H1 => x = .ref a ∧ cls = .ref C ∧ ∃ (dd : Addr) (fs : List (Str × V)) (v : V), d = some dd ∧ H1 dd = some (.xd fs) ∧ fs.lookup ("what" : Str) = some v ∧ Q v H1) := by
  refine ⟨fun pins s σ H Q I h => ?_⟩
  refine attr_of hb (thn (he.run pins s σ H _ I h) fun u s1 hh => ?_)
  obtain ⟨x, H1, I1, rx, ex, ec, dd, fs, v, ed, ea, l, q⟩ := hh
  subst ex
  obtain rfl : u = Value.ref a := rx
  subst ec
  subst ed
  obtain ⟨ha, _⟩ := I1.pin (a, oe) (List.mem_append_left _ List.mem_cons_self)
  obtain ⟨vs, hd⟩ := hf
  have hx : ObjOk X.prog X.w H1 s1.heap dd (.xd fs) := I1.hok dd _ ea
  obtain ⟨mA, hns, hr⟩ := hx
  obtain ⟨od, ho, hl⟩ := lookIn_ns hns
  obtain ⟨u, hu, ru⟩ := RelO.some_of (v := v) (o := mA "what") (by rw [← l]; exact hr "what")
  have J : PySem.W.InstAt s1.heap a oe C (some od) := ⟨ha, hz.1, by unfold PySem.W.notCls; rw [hd] <;> rfl, by rw [hz.2]; exact ho⟩
  exact HandSPX.exc_get I1.kIn J T.ga T.gg T.oex.exC (PySem.W.findObj_own T.hdC T.noW rfl (by rw [hl, hu])) (handed_of ru) ⟨v, H1, I1.tok _, ru, q⟩
def gExc (a dd : Addr) (i : Nat) : Sl → R D := fun S => match S[i]? with
  | some ⟨_, some (0, .exc a' dd' n d)⟩ => if a' = a ∧ dd' = dd ∧ n = ("what" : Str) then .ok d S else .stuck
  | _ => .stuck
theorem vd_what (i : Nat) {a dd : Addr} {oe : Obj} {cls : Value} {pn : List (Addr × Obj)} {x n : Str} {xp : Pos} {C B fI : Addr} (T : ErrTxt X.K X.mg x C B fI) (hz : Zc cls (some dd) oe) (hf : ∃ vs, oe.data = .fields vs) (hcl : cls = .ref C) (hN : X.N[i]? = some n := by rfl) (hv : Vis X.env.scope n := by first | exact Or.inl rfl | exact Or.inr (Or.inl rfl) | exact Or.inr (Or.inr rfl)) (hd : (n == ("__debug__" : Str)) = false := by decide)
    (hcd : (n == ("__classdict__" : Str)) = false := by decide) (hb : attributeBase (.Name n xp) "what" X.env (eval (.Name n xp) X.env) = eval (.Name n xp) X.env := by rfl) : VD true (X.suite a ((a, oe) :: pn)) W (.Attribute (.Name n xp) "what" pos) (gExc a dd i) := by
  refine ⟨_, pe_what T hz hf (pe_var (X := X.suite a ((a, oe) :: pn)) hN hv hd hcd) hb, fun σ0 σ G H S F Q r hw => ?_⟩
  unfold gExc at hw
  split at hw
  case h_2 => exact hw.elim
  rename_i pin a' dd' n' d hc
  split at hw
  case isFalse => exact hw.elim
  rename_i hcond
  obtain ⟨rfl, rfl, rfl⟩ := hcond
  obtain ⟨_, h2, _⟩ := r.row i _ hc
  obtain ⟨v, e1, e2⟩ := h2 _ _ rfl
  have z := e2.1
  simp only [Fz] at z
  obtain ⟨rfl, fs, u, h3, h4, h5⟩ := z
  exact ⟨_, e1, rfl, hcl, _, fs, u, rfl, r.inc _ _ h3, h4, hw u G H F r (.refl r) h5⟩

/-! ### try: .. except x as n: .. -/
def normO (i : Nat) : R Out → R Out
  | .ok o S => (match S[i]? with
    | some ⟨false, _⟩ => .ok o (S.put i none)
    | _ => .stuck)
  | _ => .stuck
open Classical in
noncomputable def tryPick (f : Addr → Addr → R Out) (i : Nat) : R Out := if h : ∃ r, ∀ a dd, normO i (f a dd) = r then h.choose else .stuck
theorem tryPick_eq {f : Addr → Addr → R Out} {i : Nat} {r : R Out} (h : ∀ a dd, normO i (f a dd) = r) : tryPick f i = r := by
  have hh : ∃ r, ∀ a dd, normO i (f a dd) = r := ⟨r, h⟩
  unfold tryPick
  rw [dif_pos hh]
  exact (hh.choose_spec 0 0).symm.trans (h 0 0)
noncomputable def gTry (C : Addr) (others : List Addr) (i : Nat) (gb : Sl → R Out) (gs : Addr → Addr → Sl → R Out) : Sl → R Out := fun S => match gb S with
  | .stuck => .stuck
  | .ok o S1 => .ok o S1
  | .err c w S1 => if c = C then (match w, S1[i]? with
      | some (n, d), some ⟨false, _⟩ => tryPick (fun a dd => gs a dd (S1.put i (some (0, .exc a dd n d)))) i
      | _, _ => .stuck)
    else if others.contains c then .err c w S1 else .stuck
theorem vs_try (i : Nat) {C : Addr} {others : List Addr} {x n : Str} {np pos' : Pos} {body suite : List Stmt} {b₀ : Stmt} {gb : Sl → R Out} {gs : Addr → Addr → Sl → R Out} (hs : X.stack = X.env :: X.outer) (hf : X.env.frame = some X.env.locals) (hN : X.N.Nodup) (hi : X.N[i]? = some n) (hln : X.env.kindOf n = some .local) (hc : Names X x (.ref C)) (tk : Takes X W)
    (he : PySem.W.exmOne X.K (.ref C) (.ref C) = some true) (ho : ∀ c, others.contains c = true → PySem.W.exmOne X.K (.ref c) (.ref C) = some false)
    (hb : ∀ (W : WX) (pn : List (Addr × Obj)) (xe : Value → Shared → Prop), Takes (X.tr pn xe) W → PassesOwn (model X.prog X.w) X.A X.env xe → VSs (X.tr pn xe) W body gb)
    (hsu : ∀ (a dd : Addr) (oe : Obj) (pn : List (Addr × Obj)), Zc (.ref C) (some dd) oe → (∃ vs, oe.data = .fields vs) → VSs (X.suite a ((a, oe) :: pn)) W0 (b₀ :: suite) (gs a dd)) :
    VS X W (.Try body [.ExceptHandler (some (.Name x np)) (some n) (b₀ :: suite) pos'] [] [] pos) (gTry C others i gb gs) := by
  refine ⟨_, ps_try_as (tb := fun W => tVS W gb) (ts := fun a cls d => match d with | some dd => (fun D σ H => cls = .ref C ∧ tVS W0 (gs a dd) D σ H) | none => tNever) hs hf hN hi hln hc tk (fun W pn xe h1 h2 => (hb W pn xe h1 h2).can) (fun a oe cls d pn hz hd => ?_), fun σ0 σ G H S F Ed r hw => ?_⟩
  · cases d with
    | none => exact pss_never
    | some dd => exact ⟨fun pins s σ H D I ⟨hcl, h⟩ => (hsu a dd oe pn (by rw [← hcl]; exact hz) hd).can.run pins s σ H D I h⟩
  · refine ⟨σ0, G, S, F, r, ?_⟩
    unfold gTry at hw
    cases hg : gb S with
    | stuck => rw [hg] at hw; exact hw.elim
    | ok o S1 => rw [hg] at hw; exact hw
    | err c w S1 =>
      rw [hg] at hw
      intro σ1 dd1 G1 H1 F1 r1 g1 er
      simp only at hw
      split at hw
      · rename_i hcC
        subst hcC
        split at hw
        case h_2 => exact hw.elim
        rename_i nn d val hcell
        refine ⟨true, he, (fun _ a ha => ?_), (fun h => nomatch h)⟩
        obtain ⟨dd0, fs, u, rfl, h3, h4, h5⟩ := er
        refine ⟨by first | rfl | trivial, ?_⟩
        have hi' : i < σ1.length := by rw [r1.len]; exact (List.getElem?_eq_some_iff.mp hcell).1
        have r2 : SR σ0 G1 H1 (σ1.set i (some (.ref a))) (S1.put i (some (0, .exc a dd0 nn d))) (fpPut F1 i []) := by
          refine r1.put hcell (by simp) (fun j hj => List.getElem?_set_ne (Ne.symm hj)) (fun h => nomatch h) (fun k d' e => ?_) (fun e => nomatch e) .nil (fun _ _ a h => by simp at h) fun a h => by simp at h
          cases e
          refine ⟨.ref a, by simp [List.getElem?_set_self hi'], ?_, rfl⟩
          simp only [Fz]
          exact ⟨trivial, fs, u, h3, h4, h5⟩
        refine ⟨σ0, G1, _, _, r2, ?_⟩
        have g2 : Gr false G H F S G1 H1 (fpPut F1 i []) (S1.put i (some (0, .exc a dd0 nn d))) := ⟨g1.up, g1.new, g1.fr, fun j b hb => by
          by_cases hj : j = i
          · simp [fpPut, hj] at hb
          · simp only [fpPut, if_neg hj] at hb; exact g1.src j b hb, fun h => nomatch h⟩
        by_cases hp : ∃ rr, ∀ a dd, normO i (gs a dd (S1.put i (some (0, .exc a dd nn d)))) = rr
        · obtain ⟨rr, hrr⟩ := hp
          rw [tryPick_eq hrr] at hw
          have hr0 := hrr a dd0
          cases hgs : gs a dd0 (S1.put i (some (0, .exc a dd0 nn d))) with
          | stuck => rw [hgs] at hr0; subst hr0; exact hw.elim
          | err c' w' S' => rw [hgs] at hr0; subst hr0; exact hw.elim
          | ok o S3 =>
            rw [hgs] at hr0
            subst hr0
            intro σ3 G3 H3 F3 r3 g3
            obtain ⟨val3, hc3⟩ : ∃ val3, S3[i]? = some ⟨false, val3⟩ := by
              cases hc3 : S3[i]? with
              | none => rw [show normO i (R.ok o S3) = .stuck by simp [normO, hc3]] at hw; exact hw.elim
              | some c3 =>
                obtain ⟨pin3, v3⟩ := c3
                cases pin3 with
                | true => rw [show normO i (R.ok o S3) = .stuck by simp [normO, hc3]] at hw; exact hw.elim
                | false => exact ⟨v3, rfl⟩
            rw [show normO i (R.ok o S3) = .ok o (S3.put i none) by simp [normO, hc3]] at hw
            have hi3 : i < σ3.length := by rw [r3.len]; exact (List.getElem?_eq_some_iff.mp hc3).1
            have r4 : SR σ0 G3 H3 (σ3.set i none) (S3.put i none) (fpPut F3 i []) :=
              r3.put hc3 (by simp) (fun j hj => List.getElem?_set_ne (Ne.symm hj)) (fun h => nomatch h) (fun k d' e => nomatch e) (fun _ => rfl) .nil (fun _ _ a h => by simp at h) fun a h => by simp at h
            have g4 : Gr false G H F S G3 H3 (fpPut F3 i []) (S3.put i none) := by
              have g5 := g2.trans g3
              exact ⟨g5.up, g5.new, g5.fr, fun j b hb => by
                by_cases hj : j = i
                · simp [fpPut, hj] at hb
                · simp only [fpPut, if_neg hj] at hb; exact g5.src j b hb, fun h => nomatch h⟩
            have fin := hw (σ3.set i none) G3 H3 _ r4 g4
            cases o with
            | nx => exact fin
            | ct => exact fin
            | bk => exact fin
            | rt x => exact fun v fp z => fin v fp (VP.from g2 ⟨z.ow, z.nd, z.src, fun hb j a ha hj => by
                by_cases hji : j = i
                · simp [fpPut, hji] at hj
                · simp only [fpPut, if_neg hji] at hj; exact z.dj hb j a ha hj, z.ns⟩)
        · exfalso
          unfold tryPick at hw
          rw [dif_neg hp] at hw
          exact hw.elim
      · split at hw
        · rename_i hcC hin
          exact ⟨false, ho c hin, (fun h => nomatch h), fun _ => hw σ1 dd1 G1 H1 F1 r1 g1 er⟩
        · exact hw.elim
end
end VL

set_option Elab.async false
set_option linter.all false
set_option autoImplicit false
set_option maxRecDepth 100000
namespace VL
open PySem PySem.Spec L2
open PyProof.Rows hiding St

section
variable {X : Cx} {W : WX} {p q p' : Bool} {e ea eb : Expr} {es : List Expr} {pos : Pos} {tg : Expr}
variable {σ0 σ : St} {G H G1 H1 G2 H2 : Hp} {F F1 F2 : Fps} {S S1 S2 : Sl}
/-! ### range, enumerate, zip -/
def rangeD (lo : Int) (n : Nat) : List D := (List.range n).map fun i => .int (lo + (i : Nat))
theorem rangeD_get {lo : Int} {n i : Nat} {d : D} (h : (rangeD lo n)[i]? = some d) : i < n ∧ d = .int (lo + i) := by
  unfold rangeD at h
  rw [List.getElem?_map] at h
  by_cases hi : i < n
  · rw [List.getElem?_range hi] at h
    cases h
    exact ⟨hi, rfl⟩
  · rw [List.getElem?_eq_none (by simp; omega)] at h
    cases h
theorem rangeD_len {lo : Int} {n : Nat} : (rangeD lo n).length = n := by simp [rangeD]
theorem itr_ok {b : Bool} {lo : Int} {n : Nat} : ItOk b (Itr lo n) G H (rangeD lo n) := fun G' H' i1 i2 i3 i => by
  refine ⟨fun d hd => ?_, fun hi => by rw [rangeD_len] at hi; exact hi⟩
  obtain ⟨h1, rfl⟩ := rangeD_get hd
  exact ⟨h1, fun x H'' ⟨e1, e2⟩ => .inl ⟨e1, e2⟩⟩
def dRange1 : List D → Option (List D)
  | [.int j] => if -(2 ^ 62) ≤ j ∧ j < 2 ^ 62 then some (rangeD 0 j.toNat) else none
  | _ => none
def dRange2 : List D → Option (List D)
  | [.int i, .int j] => if -(2 ^ 62) ≤ i ∧ i < 2 ^ 62 ∧ -(2 ^ 62) ≤ j ∧ j < 2 ^ 62 then some (rangeD i (j - i).toNat) else none
  | _ => none
def gIt (h : List D → Option (List D)) (ga : Sl → R (List D)) : Sl → R (List D) := fun S => (ga S).bind fun ds S1 => match h ds with | some xs => .ok xs S1 | none => .stuck
theorem vi_range1 (b : Bool) {xp : Pos} {ga : Sl → R (List D)} (ha : VA p X W [e] ga) (hm : X.mg "range" = none) (hg : Gl X "range" := by rfl) (hs : starEach [e] X.env = [(false, eval e X.env)] := by rfl) : VI p b X W tg (.Call (.Name "range" xp) [e] [] pos) (gIt dRange1 ga) := by
  obtain ⟨t, t1, t2⟩ := ha
  refine ⟨_, pi_range1 hg hm t1 hs, fun σ0 σ G H S F Q r hw => ?_⟩
  refine VA.then (t := t) t2 r hw fun ds S1 vs G1 H1 F1 r1 g1 z1 hw1 => ?_
  match ds, hw1, z1 with
  | [], hw1, _ => exact hw1.elim
  | _ :: _ :: _, hw1, _ => exact absurd hw1 (by simp only [dRange1]; exact id)
  | [d], hw1, z1 =>
    cases d <;> first | exact hw1.elim | skip
    rename_i j
    simp only [dRange1] at hw1
    split at hw1
    case h_2 => exact hw1.elim
    rename_i xs hx
    split at hx
    case isFalse => cases hx
    rename_i hj
    cases hx
    obtain ⟨v, rfl, h⟩ := fzL1 z1
    simp only [Fz] at h
    exact ⟨j, by rw [h], hj.1, hj.2, hw1 _ G1 H1 F1 r1 g1 itr_ok⟩
theorem vi_range2 (b : Bool) {e2 : Expr} {xp : Pos} {ga : Sl → R (List D)} (ha : VA p X W [e, e2] ga) (hm : X.mg "range" = none) (hg : Gl X "range" := by rfl) (hs : starEach [e, e2] X.env = [(false, eval e X.env), (false, eval e2 X.env)] := by rfl) (hs2 : starEach [e2] X.env = [(false, eval e2 X.env)] := by rfl) : VI p b X W tg (.Call (.Name "range" xp) [e, e2] [] pos) (gIt dRange2 ga) := by
  obtain ⟨t, t1, t2⟩ := ha
  refine ⟨_, pi_range2 hg hm t1 hs hs2, fun σ0 σ G H S F Q r hw => ?_⟩
  refine VA.then (t := t) t2 r hw fun ds S1 vs G1 H1 F1 r1 g1 z1 hw1 => ?_
  unfold dRange2 at hw1
  split at hw1
  case h_2 => exact hw1.elim
  rename_i xs hx
  split at hx
  case h_2 => cases hx
  rename_i ds' i j
  split at hx
  case isFalse => cases hx
  rename_i hj
  cases hx
  obtain ⟨v, u, rfl, h, h'⟩ := fzL2 z1
  simp only [Fz] at h h'
  exact ⟨i, j, by rw [h, h'], hj, hw1 _ G1 H1 F1 r1 g1 itr_ok⟩
def enumD (xs : List D) : List D := (List.range xs.length).map fun i => .tup [.int (i : Nat), xs.getD i .non]
theorem enumD_get {xs : List D} {i : Nat} {d : D} (h : (enumD xs)[i]? = some d) : ∃ x, xs[i]? = some x ∧ d = .tup [.int (i : Nat), x] := by
  unfold enumD at h
  rw [List.getElem?_map] at h
  by_cases hi : i < xs.length
  · rw [List.getElem?_range hi] at h
    cases h
    exact ⟨xs[i], by simp [hi], by simp [hi]⟩
  · rw [List.getElem?_eq_none (by simp; omega)] at h
    cases h
def listV (b : Bool) (x : Vl) : Option (List D) := if b || !x.b then (match x.d with
  | .lst ds => if x.lev then some ds else none
  | _ => none) else none
def gEnum (b : Bool) (g : Sl → R Vl) : Sl → R (List D) := fun S => (g S).bind fun x S1 => match listV b x with | some ds => .ok (enumD ds) S1 | none => .stuck
theorem vi_enum (b : Bool) {elts : List Expr} {kk : Nat} {xp tpos : Pos} {g : Sl → R Vl} (h : VE p X W e g) (hm : X.mg "enumerate" = none) (hg : Gl X "enumerate" := by rfl) (hs : starEach [e] X.env = [(false, eval e X.env)] := by rfl) (hs' : starEach [e] X.env = (false, eval e X.env) :: starEach [] X.env := by rfl) : VI p b X W (.Tuple elts kk tpos) (.Call (.Name "enumerate" xp) [e] [] pos) (gEnum b g) := by
  obtain ⟨t, t1, t2⟩ := h
  refine ⟨_, pi_enum hg hm (pa_cons t1 pa_nil hs') hs, fun σ0 σ G H S F Q r hw => ?_⟩
  refine VE.then (t := t) t2 r hw fun x S1 v fp G1 H1 F1 r1 g1 z1 hw1 => ?_
  cases hl : listV b x with
  | none => rw [hl] at hw1; exact hw1.elim
  | some ds =>
    rw [hl] at hw1
    unfold listV at hl
    split at hl
    case isFalse => cases hl
    rename_i hb
    obtain ⟨xb, xk, xd⟩ := x
    cases xd <;> first | (simp only at hl; cases hl; done) | skip
    simp only at hl
    split at hl
    case isFalse => cases hl
    rename_i hlev
    cases hl
    have go : ∀ {G' H' : Hp} {a : Addr} {vs : List V}, (G' a = some (.lst vs) ∨ (b = true ∧ H' a = some (.lst vs))) → FzL G' ds vs → ItOk b (Ite X.K a) G' H' (enumD ds) := fun {G' H' a vs} h0 z => by
      intro G2 H2 i1 i2 i3 i
      have ha : H2 a = some (.lst vs) := by
        rcases h0 with h0 | ⟨hb, h0⟩
        · exact i2 _ _ (i1 _ _ h0)
        · exact i3 hb _ _ h0
      refine ⟨fun d hd => ?_, fun hi => ⟨vs, .of ha, by rw [z.length]; simpa [enumD] using hi⟩⟩
      obtain ⟨x, hx, rfl⟩ := enumD_get hd
      obtain ⟨u, e1, e2⟩ := z.get hx
      refine ⟨⟨vs, u, .of ha, e1⟩, fun y H3 ⟨T, u', e3, hT, e4, y'⟩ => .inr ⟨T, _, [.int (i : Nat), u], rfl, e3, hT, ?_, .cons rfl (.cons (e2.inc i1) .nil)⟩⟩
      have := y' vs (.of ha)
      rw [e1] at this
      cases this
      exact e4
    cases xb with
    | true =>
      have hb' : b = true := by simpa using hb
      obtain ⟨a, vs, rfl, ha, fa⟩ := (z1.rv1 hlev).lst r1.inc
      exact ⟨a, vs, rfl, .of ha, hw1 _ G1 H1 F1 r1 g1 (go (.inr ⟨hb', ha⟩) fa)⟩
    | false =>
      obtain ⟨G2, r2, g2, z2⟩ := z1.freeze r1 g1 rfl
      simp only [Fz] at z2
      obtain ⟨a, vs, rfl, rd, fz⟩ := z2
      exact ⟨a, vs, rfl, .of (r2.inc _ _ rd), hw1 _ G2 H1 F1 r2 g2 (go (.inl rd) fz)⟩
end
end VL

set_option Elab.async false
set_option linter.all false
set_option autoImplicit false
set_option maxRecDepth 100000
namespace VL
open PySem PySem.Spec L2
open PyProof.Rows hiding St

section
variable {X : Cx} {W : WX} {p q p' : Bool} {e ea eb : Expr} {es : List Expr} {pos : Pos} {tg : Expr}
variable {σ0 σ : St} {G H G1 H1 G2 H2 : Hp} {F F1 F2 : Fps} {S S1 S2 : Sl}
/-! ### the script -/
open Classical in
noncomputable def gLenKl (K : PySem.W.Frag) (i : Nat) : Sl → R D := fun S => match S[i]? with
  | some ⟨_, some (0, .kl K' _ ns)⟩ => if K' = K then .ok (.int ns.length) S else .stuck
  | _ => .stuck
open Classical in
noncomputable def gIxKl (K : PySem.W.Frag) (i : Nat) (g : Sl → R D) : Sl → R D := fun S => match S[i]? with
  | some ⟨_, some (0, .kl K' _ ns)⟩ => if K' = K then (g S).bind fun y S1 => (match y with
    | .int j => (match atI ns j with
      | some n => .ok (.int n) S1
      | none => .stuck)
    | _ => .stuck) else .stuck
  | _ => .stuck
theorem atI_map {α β : Type} (f : α → β) {xs : List α} {j : Int} {x : α} (h : atI xs j = some x) : atI (xs.map f) j = some (f x) := by
  obtain ⟨n, h1, h2⟩ := atI_spec h
  exact atI_of (by simp) h1 (by simp [h2])
open Classical in
theorem vd_ixKl (i : Nat) {x : Str} {xp : Pos} {g : Sl → R D} (b : VD q X W eb g) (hN : X.N[i]? = some x := by rfl) (hv : Vis X.env.scope x := by first | exact Or.inl rfl | exact Or.inr (Or.inl rfl) | exact Or.inr (Or.inr rfl)) (hd : (x == ("__debug__" : Str)) = false := by decide)
    (hcd : (x == ("__classdict__" : Str)) = false := by decide) (hs : PlainIx eb := by intro _ _; rfl) : VD q X W (.Subscript (.Name x xp) eb pos) (gIxKl X.K i g) := by
  obtain ⟨tb, b1, b2⟩ := b
  refine ⟨_, pe_ix ix_seq (pe_var hN hv hd hcd) b1 hs, fun σ0 σ G H S F Q r hw => ?_⟩
  unfold gIxKl at hw
  split at hw
  case h_2 => exact hw.elim
  rename_i pin K' a ns hc
  split at hw
  case isFalse => exact hw.elim
  rename_i hK
  subst hK
  obtain ⟨_, h2, _⟩ := r.row i _ hc
  obtain ⟨v, e1, e2⟩ := h2 _ _ rfl
  have z := e2.1
  simp only [Fz] at z
  obtain ⟨rfl, hS⟩ := z
  refine ⟨_, e1, ?_⟩
  refine VD.then (t := tb) b2 r hw fun y S1 u G1 H1 F1 r1 g1 z1 hw1 => ?_
  cases y <;> first | exact hw1.elim | skip
  rename_i j
  simp only at hw1
  split at hw1
  case h_2 => exact hw1.elim
  rename_i n hn
  simp only [Fz] at z1
  subst z1
  exact .inl ⟨a, ns.map V.int, j, .int n, rfl, rfl, hS.imp ((g1.up.trans r1.inc).le.rd _ _) id, atI_map V.int hn, hw1 _ G1 H1 F1 r1 g1 rfl⟩
open Classical in
theorem vd_lenKl (i : Nat) {x : Str} {xp fp : Pos} (hm : X.mg "len" = none) (hg : Gl X "len" := by rfl) (hN : X.N[i]? = some x := by rfl) (hv : Vis X.env.scope x := by first | exact Or.inl rfl | exact Or.inr (Or.inl rfl) | exact Or.inr (Or.inr rfl)) (hd : (x == ("__debug__" : Str)) = false := by decide)
    (hcd : (x == ("__classdict__" : Str)) = false := by decide) (he : starEach [.Name x xp] X.env = (false, eval (.Name x xp) X.env) :: starEach [] X.env := by rfl) (hpl : (backTo pos (starEach [] X.env)).any (·.1) = false := by rfl) :
    VD true X W (.Call (.Name "len" fp) [.Name x xp] [] pos) (gLenKl X.K i) := by
  refine ⟨_, pe_callB call_len_seq hg hm PySem.boot_len (pa_cons (pe_var hN hv hd hcd) pa_nil he) (by decide) (by decide) he hpl, fun σ0 σ G H S F Q r hw => ?_⟩
  unfold gLenKl at hw
  split at hw
  case h_2 => exact hw.elim
  rename_i pin K' a ns hc
  split at hw
  case isFalse => exact hw.elim
  rename_i hK
  subst hK
  obtain ⟨_, h2, _⟩ := r.row i _ hc
  obtain ⟨v, e1, e2⟩ := h2 _ _ rfl
  have z := e2.1
  simp only [Fz] at z
  obtain ⟨rfl, hS⟩ := z
  refine ⟨_, e1, a, ns.map V.int, rfl, .inl (hS.imp (r.inc.le.rd _ _) id), ?_⟩
  rw [List.length_map]
  exact hw _ G H F r (.refl r) rfl
/-! ### list(range(n)) -/
def dLRange : List D → Option (List D)
  | [.int j] => if j ≤ 16777216 ∧ -(2 ^ 62) ≤ j then some (rangeD 0 j.toNat) else none
  | _ => none
theorem fzL_range {lo : Int} {n : Nat} : FzL G (rangeD lo n) ((List.range n).map fun i => V.int (lo + (i : Nat))) := by
  unfold rangeD
  generalize List.range n = l
  induction l with
  | nil => exact .nil
  | cons x l ih => exact .cons rfl ih
def gLRange (g : Sl → R D) : Sl → R Vl := fun S => (g S).bind fun d S1 => match dLRange [d] with | some xs => .ok ⟨false, 1, .lst xs⟩ S1 | none => .stuck
theorem ve_lrange {xp xr pr : Pos} {g : Sl → R D} (h : VD p X W e g) (hc : X.calm = true) (hm : X.mg "range" = none) (hml : X.mg "list" = none) (hg : Gl X "range" := by rfl) (hgl : Gl X "list" := by rfl) (na : starEach [e] X.env = (false, eval e X.env) :: starEach [] X.env := by rfl)
    (na2 : starEach [.Call (.Name "range" xr) [e] [] pr] X.env = (false, eval (.Call (.Name "range" xr) [e] [] pr) X.env) :: starEach [] X.env := by rfl) : VE p X W (.Call (.Name "list" xp) [.Call (.Name "range" xr) [e] [] pr] [] pos) (gLRange g) := by
  obtain ⟨t, t1, t2⟩ := h
  refine ⟨_, pe_listRg hc hgl hml (prg_1 hg hm t1 na) na2, fun σ0 σ G H S F Q r hw => ?_⟩
  refine VD.then (t := t) t2 r hw fun d S1 v G1 H1 F1 r1 g1 z1 hw1 => ?_
  cases d <;> first | exact hw1.elim | skip
  rename_i j
  simp only [dLRange] at hw1
  split at hw1
  case h_2 => exact hw1.elim
  rename_i xs hx
  split at hx
  case isFalse => cases hx
  rename_i hj
  cases hx
  simp only [Fz] at z1
  subst z1
  refine ⟨j, rfl, ⟨by omega, by omega, by omega, by omega, by omega⟩, ?_⟩
  have e0 : (j - 0).toNat = j.toNat := by rw [Int.sub_zero]
  unfold rgV
  rw [e0]
  exact new_lst (S' := S1) r1 g1 fzL_range hw1
end
section
variable {P : Program} {w : World} {K : PySem.W.Frag} {mg : Str → Option Value} {base : Heap}
/-- the law's promise -/
def spLaw (K : PySem.W.Frag) : Sp := fun vs H Q E => ∃ (a : Addr) (ns : List Int), vs = [.ref a] ∧ ns.length ≤ 63 ∧ Only H ∧ SqL K H a (ns.map V.int) ∧ ∀ H', Q (.bl true) H'
theorem law_ok {x qual : Str} {st : Stmt} {f : Addr} {fd : FuncData} {N : List Str} {nm : Str} {k : Nat} {gb : Sl → R Out} (Fu : Fun K x qual st f fd) (Sc : FnScope N [nm] (defScope st)) (hNl : 1 ≤ N.length)
    (hb : ∀ (cdv : Value) (A : Around) (outer : List Env) (s : Shared) (H : Hp) (E : XK), Room k (A.deeper (envOfC qual (defScope st) s.heap.objs.size f cdv)) →
      VSs (cxOf (L2.CX P w) P w K mg base N qual (defScope st) f cdv A outer s H E) (fun cls d _ H => E cls d H) (defBody st) gb)
    (true' : ∀ (a : Addr) (ns : List Int), ns.length ≤ 63 → ∃ S', gb (⟨false, some (0, .kl K a ns)⟩ :: List.replicate (N.length - 1) ⟨false, none⟩) = .ok (.rt (.fzn (.bl true))) S') :
    FnOk P w K mg base (L2.CX P w) (k + 1) f fd [nm] (spLaw K) := by
  refine Fu.okX Sc (fun vs H Q E ⟨a, ns, e, _⟩ => by rw [e]; rfl) fun cdv A outer s H vs Q E hr hsp => ?_
  obtain ⟨t, t1, t2⟩ := hb cdv A outer s H E hr
  refine ⟨t, t1, ?_⟩
  obtain ⟨a, ns, rfl, hl, hO, hS, hQ⟩ := hsp
  obtain ⟨S', hg⟩ := true' a ns hl
  have r : SR ([V.ref a].map some) H H ([V.ref a].map some) [⟨false, some (0, .kl K a ns)⟩] (fun _ => []) := by
    refine ⟨rfl, fun i c hc => ⟨fun h => ?_, fun kk d e => ?_, fun e => rfl⟩, fun _ _ => rfl, fun _ => .nil, fun i j b h => by simp at h, fun i b h => by simp at h, Inc.refl _, fun b us h => ?_⟩
    · rfl
    · cases i with
      | zero =>
        simp at hc
        subst hc
        cases e
        refine ⟨.ref a, rfl, ?_, rfl⟩
        simp only [Fz]
        exact ⟨trivial, hS⟩
      | succ i => simp at hc
    · rcases hO b with h' | ⟨o, xs, h'⟩
      · rw [h'] at h; cases h
      · rw [h'] at h; cases h
  have rs := r.start (N := N) hNl
  refine t2 _ _ H H _ _ _ rs ?_
  have e1 : N.length - [V.ref a].length = N.length - 1 := rfl
  rw [e1]
  show ((gb (⟨false, some (0, .kl K a ns)⟩ :: List.replicate (N.length - 1) ⟨false, none⟩)).wp _ _)
  rw [hg]
  intro σ' G' H' F' r' g' v fp z
  have zz := z.isFz
  simp only [Fz] at zz
  subst zz
  exact hQ H'
end
end VL

set_option Elab.async false
set_option linter.all false
set_option autoImplicit false
set_option maxRecDepth 100000
namespace VL
open PySem PySem.Spec L2
open PyProof.Rows hiding St

/-! ## callees -/
structure Cal (P : Program) (w : World) (K : PySem.W.Frag) (mg : Str → Option Value) (base : Heap) (k : Nat) (x : Str) (n : Nat) (fs : Sl → R Vl) : Prop where
  ex : ∃ a fd ps, FnOk P w K mg base (L2.CX P w) k a fd ps (SpF n fs) ∧ mg x = some (.ref a) ∧ PySem.W.keepIn K (.ref a) = true ∧ Binds K fd ps []
def allV : List Ar → Bool
  | [] => true
  | .v _ :: as => allV as
  | .io _ :: _ => false
theorem allV_io : ∀ {as : List Ar}, allV as = true → ∀ (i j : Nat), as[i]? ≠ some (Ar.io j)
  | [], _, i, j => by simp
  | .v d :: as, h, 0, j => by simp
  | .v d :: as, h, i + 1, j => by simpa using allV_io (as := as) (by simpa [allV] using h) i j
theorem allV_idx {as : List Ar} (h : allV as = true) (j : Nat) : idxIo as j = none := by
  cases e : idxIo as j with
  | none => rfl
  | some i => exact absurd (idxIo_at e) (allV_io h i j)
theorem allV_ok : ∀ {as : List Ar}, allV as = true → okIo as = true
  | [], _ => rfl
  | .v d :: as, h => by simpa [okIo] using allV_ok (as := as) (by simpa [allV] using h)
def gCallP (f : Sl → R Vl) (ga : Sl → R (List Ar)) : Sl → R Vl := fun S => (ga S).bind fun as S1 => if allV as then (match argSl as S1 with
  | none => .stuck
  | some T => (match f T with
    | .stuck => .stuck
    | .ok x _ => .ok x S1
    | .err c w _ => .err c w S1)) else .stuck
section
variable {X : Cx} {W : WX} {p q p' : Bool} {e ea eb ec : Expr} {es : List Expr} {pos : Pos}
variable {σ0 σ : St} {G H G1 H1 G2 H2 : Hp} {F F1 F2 : Fps} {S S1 S2 : Sl}
theorem backFrom_none {as : List Ar} {T : Sl} (h : ∀ j, idxIo as j = none) : ∀ (S : Sl) (n : Nat), backFrom as T n S = S
  | [], n => rfl
  | c :: cs, n => by simp [backFrom, h, backFrom_none h cs (n + 1)]
theorem call_spP {as : List Ar} {vs : List V} {n : Nat} {f : Sl → R Vl} {Q : VK} (r : SR σ0 G1 H1 σ S1 F1) (g : Gr p G H F S G1 H1 F1 S1) (a : ArOk σ G1 as vs) (hn : as.length = n)
    (hw : (if allV as then (match argSl as S1 with
      | none => R.stuck
      | some T => (match f T with
        | .stuck => .stuck
        | .ok x _ => .ok x S1
        | .err c w _ => .err c w S1)) else .stuck).wp (OkV p σ0 σ G H S F Q) (OkE σ0 σ G1 H1 S1 F1 W)) : SpF n f vs H1 Q (WE W σ) := by
  split at hw
  case isFalse => exact hw.elim
  rename_i ok
  split at hw
  case h_1 => exact hw.elim
  rename_i T hT
  have hbS : ∀ T' : Sl, backSl as T' S1 = S1 := fun T' => backFrom_none (allV_idx ok) S1 0
  have hbF : ∀ F' : Fps, backF as F' F1 = F1 := fun F' => by funext j; simp [backF, allV_idx ok j]
  have hF : ∀ i, argF as F1 i = [] := fun i => by
    unfold argF
    split
    · rename_i j e; exact absurd e (allV_io ok i j)
    · rfl
  refine ⟨by rw [a.len, hn], G1, T, argF as F1, r.args a (allV_ok ok) hT, ?_⟩
  cases hf : f T with
  | stuck => rw [hf] at hw; exact hw.elim
  | ok x T' =>
    rw [hf] at hw
    intro v fp G2 H2 F2 r2 g2 z2
    obtain ⟨r3, g3⟩ := r.back a (allV_ok ok) hT r2 g2
    have z3 := VP.back (vs := vs) r (allV_ok ok) g2 z2
    rw [hbS, hbF] at r3
    rw [hbF] at z3
    have g4 : Gr true G1 H1 F1 S1 G2 H2 F1 S1 := by
      rw [hbS, hbF] at g3
      refine ⟨g3.up, g3.new, g3.fr, g3.src, fun _ => ⟨rfl, rfl, fun b o ho => g2.fr b o ho fun i h => by rw [hF i] at h; simp at h, fun b hb => ?_⟩⟩
      rcases g2.new b hb with h | ⟨i, h⟩ | h
      · exact .inl h
      · rw [hF i] at h; simp at h
      · exact .inr h
    exact hw v fp G2 H2 F1 r3 ((g.trans g4).weak fun h => by simpa using h) (VP.from g z3)
  | err c w T' =>
    rw [hf] at hw
    intro dd G2 H2 F2 r2 g2 er
    obtain ⟨r3, g3⟩ := r.back a (allV_ok ok) hT r2 g2
    rw [hbS, hbF] at r3 g3
    exact hw dd G2 H2 F1 r3 g3 er
theorem ve_callP {x : Str} {xp : Pos} {k j n : Nat} {fs : Sl → R Vl} {ga : Sl → R (List Ar)} (C : Cal X.prog X.w X.K X.mg X.base j x n fs) (tk : Takes X W) (hr : Room k X.A) (hjk : j ≤ k)
    (ha : VAr p X W (e :: es) ga) (hl : ∀ S as S', ga S = .ok as S' → as.length = n) (hg : Gl X x := by rfl) (hdb : (x == ("__debug__" : Str)) = false := by decide) (he : starEach (e :: es) X.env = (false, eval e X.env) :: starEach es X.env := by rfl) (hpl : (backTo pos (starEach es X.env)).any (·.1) = false := by rfl) :
    VE p X W (.Call (.Name x xp) (e :: es) [] pos) (gCallP fs ga) := by
  obtain ⟨a, fd, ps, Fn, hm, hk, hb⟩ := C.ex
  obtain ⟨t, t1, t2⟩ := ha
  refine ⟨_, pe_callS Fn (hr.mono hjk) hg hm hk hb (E := WE W) (fun σ => passAt tk σ) t1 hdb he hpl, fun σ0 σ G H S F Q r hw => ?_⟩
  unfold gCallP at hw
  cases hga : ga S with
  | stuck => rw [hga] at hw; exact hw.elim
  | err c w S' =>
    rw [hga] at hw
    exact t2 σ0 σ G H S F _ r (by rw [hga]; exact hw)
  | ok as S1 =>
    rw [hga] at hw
    refine t2 σ0 σ G H S F _ r ?_
    rw [hga]
    intro vs G1 H1 F1 r1 g1 a
    exact call_spP (W := W) r1 g1 a (hl S as S1 hga) (R.wp_mono hw (fun _ _ h => h) fun c w S' h => h.from g1)
theorem ve_callC {x : Str} {xp : Pos} {k j n : Nat} {fs : Sl → R Vl} {ga : Sl → R (List Ar)} (C : Cal X.prog X.w X.K X.mg X.base j x n fs) (tk : Takes X W) (hr : Room k X.A) (hjk : j ≤ k)
    (ha : VAr p X W (e :: es) ga) (hl : ∀ S as S', ga S = .ok as S' → as.length = n) (hn : (e :: es).length = n := by rfl) (hg : Gl X x := by rfl) (hdb : (x == ("__debug__" : Str)) = false := by decide) (he : starEach (e :: es) X.env = (false, eval e X.env) :: starEach es X.env := by rfl) (hpl : (backTo pos (starEach es X.env)).any (·.1) = false := by rfl) :
    VE false X W (.Call (.Name x xp) (e :: es) [] pos) (gCall fs ga) := by
  obtain ⟨a, fd, ps, Fn, hm, hk, hb⟩ := C.ex
  exact ve_call Fn tk (hr.mono hjk) hg hm hk hb ha hn hl hdb he hpl
/-- the number of arguments, told by the form -/
theorem arN_len : ∀ S as S', gArN S = .ok as S' → as.length = 0 := fun S as S' h => by cases h; rfl
theorem arV_len {g : Sl → R D} {r : Sl → R (List Ar)} {n : Nat} (h : ∀ S as S', r S = .ok as S' → as.length = n) : ∀ S as S', gArV g r S = .ok as S' → as.length = n + 1 := fun S as S' e => by
  unfold gArV at e
  cases h1 : g S with
  | stuck => rw [h1] at e; cases e
  | err c w s => rw [h1] at e; cases e
  | ok d S1 =>
    rw [h1] at e
    simp only [R.bind] at e
    cases h2 : r S1 with
    | stuck => rw [h2] at e; cases e
    | err c w s => rw [h2] at e; cases e
    | ok as2 S2 =>
      rw [h2] at e
      cases e
      simp [h _ _ _ h2]
theorem arIo_len {i : Nat} {r : Sl → R (List Ar)} {n : Nat} (h : ∀ S as S', r S = .ok as S' → as.length = n) : ∀ S as S', gArIo i r S = .ok as S' → as.length = n + 1 := fun S as S' e => by
  unfold gArIo at e
  split at e
  · cases h2 : r S with
    | stuck => rw [h2] at e; cases e
    | err c w s => rw [h2] at e; cases e
    | ok as2 S2 =>
      rw [h2] at e
      cases e
      simp [h _ _ _ h2]
  · cases e
end
section
variable {P : Program} {w : World} {K : PySem.W.Frag} {mg : Str → Option Value} {base : Heap}
/-- nothing is promised -/
theorem cal_zero {x : Str} {n : Nat} {a : Addr} {fd : FuncData} {ps : List Str} (hn : ps.length = n) (hm : mg x = some (.ref a)) (hk : PySem.W.keepIn K (.ref a) = true) (hb : Binds K fd ps []) : Cal P w K mg base 0 x n (fun _ => .stuck) :=
  ⟨a, fd, ps, ⟨fun vs H Q E h => by rw [h.1, hn], fun A outer s H args us vs Q E _ _ _ _ h => by obtain ⟨_, G, T, F, _, hw⟩ := h; exact hw.elim⟩, hm, hk, hb⟩
theorem cal_fn {x qual : Str} {st : Stmt} {f : Addr} {fd : FuncData} {N ps : List Str} {k n m : Nat} {gb : Sl → R Out} (Fu : Fun K x qual st f fd) (hm : mg x = some (.ref f)) (hbi : Binds K fd ps []) (Sc : FnScope N ps (defScope st)) (hn : ps.length = n) (hNl : N.length - ps.length = m) (hle : ps.length ≤ N.length)
    (hb : ∀ (cdv : Value) (A : Around) (outer : List Env) (s : Shared) (H : Hp) (E : XK), Room k (A.deeper (envOfC qual (defScope st) s.heap.objs.size f cdv)) →
      VSs (cxOf (L2.CX P w) P w K mg base N qual (defScope st) f cdv A outer s H E) (fun cls d _ H => E cls d H) (defBody st) gb) : Cal P w K mg base (k + 1) x n (fnSem n m gb) := by
  subst hn hNl
  exact ⟨f, fd, ps, fn_ok Fu Sc hle hb, hm, Fu.kp, hbi⟩
end
end VL

set_option Elab.async false
set_option linter.all false
set_option autoImplicit false
set_option maxRecDepth 100000
namespace VL
open PySem PySem.Spec L2
open PyProof.Rows hiding St
theorem opd_mul : OpD (rI CMul fun i j => .int (i * j)) dMul := opd_I fun i j h => by simp only [cMul, decide_eq_true_eq] at h; exact h
theorem opd_mod : OpD (rI (fun _ j => 0 < j) fun i j => .int (i % j)) dMod := opd_I fun i j h => of_decide_eq_true h
theorem opd_div : OpD (rI CDiv fun i j => .int (i / j)) dDiv := opd_I fun i j h => by simp only [decide_eq_true_eq] at h; exact h
abbrev dPow := hI (fun i j => decide (0 ≤ j ∧ j ≤ 1000000 ∧ i.natAbs < 2 ^ 64)) (fun i j => i ^ j.toNat)
theorem opd_pow : OpD (rI CPow fun i j => .int (i ^ j.toNat)) dPow := opd_I fun i j h => by simp only [decide_eq_true_eq] at h; exact h
theorem names_mk {X : Cx} {x : Str} {c : Value} (hg : Gl X x) (hd : (x == ("__debug__" : Str)) = false) (hm : X.mg x = some c) : Names X x c := ⟨hg, hd, .inl hm⟩
section
variable {X : Cx} {W : WX} {σ0 σ : St} {G H : Hp} {F : Fps} {S : Sl}
def gRev (i : Nat) : Sl → R D := fun S => match S[i]? with
  | some ⟨_, some (1, .lst xs)⟩ => .ok .non (S.put i (some (1, .lst xs.reverse)))
  | _ => .stuck
theorem FzL.reverse : ∀ {ds : List D} {vs : List V}, FzL G ds vs → FzL G ds.reverse vs.reverse
  | [], vs, h => by simp only [FzL] at h; subst h; exact .nil
  | d :: ds, vs, h => by
    simp only [FzL] at h
    obtain ⟨v, r, rfl, h1, h2⟩ := h
    rw [List.reverse_cons, List.reverse_cons]
    exact h2.reverse.append (.cons h1 .nil)
theorem vd_reverse (i : Nat) {x : Str} {xp apos cpos : Pos} (hN : X.N[i]? = some x := by rfl) (hv : Vis X.env.scope x := by first | exact Or.inl rfl | exact Or.inr (Or.inl rfl) | exact Or.inr (Or.inr rfl)) (hd : (x == ("__debug__" : Str)) = false := by decide)
    (hcd : (x == ("__classdict__" : Str)) = false := by decide)
    (hbase : attributeBase (.Name x xp) "reverse" X.env (eval (.Name x xp) X.env) = eval (.Name x xp) X.env := by rfl) (hline : (apos.endLine == cpos.line) = true := by rfl) : VD false X W (.Call (.Attribute (.Name x xp) "reverse" apos) [] [] cpos) (gRev i) := by
  refine ⟨_, pe_bm0 PySem.F.plainAttrs_list PySem.F.slot_list_reverse PySem.F.type_list_reverse mt_reverse (pe_var hN hv hd hcd) hbase hline, fun σ0 σ G H S F Q r hw => ?_⟩
  unfold gRev at hw
  split at hw
  case h_2 => exact hw.elim
  rename_i pin xs hc
  obtain ⟨a, vs, f, hσ, hH, hF, ol⟩ := r.lst hc
  have fz := OwL.fz0 ol
  have hf : f = [] := by
    have : ∀ b ∈ f, False := OwL.dom ol (C := fun _ => False) fun d v f h => by obtain ⟨_, rfl⟩ := h; simp
    cases f with
    | nil => rfl
    | cons b f => exact (this b (by simp)).elim
  subst hf
  refine ⟨_, hσ, tyL hH, a, vs, rfl, rfl, hH, ?_⟩
  have hu : ∀ b, b ∉ F i → ∀ o, H b = some o → upd H a (.lst vs.reverse) b = some o := fun b hb o ho => by
    rw [upd_ne fun e : b = a => hb (by rw [e, hF]; simp)]; exact ho
  exact hw .non G _ (fpPut F i [a]) (r.mut' hc rfl hσ hu ⟨a, _, [], rfl, upd_same, rfl, owL_fz fz.reverse⟩ (by simp) (fun b hb => .inl (by rw [hF]; exact hb)) upd_ntup) ((Gr.refl (p := true) r).mut (T' := S) hu fun b hb => .inr (.inr (by rw [hF]; exact hb))) rfl
end
end VL

set_option Elab.async false
set_option linter.all false
set_option autoImplicit false
set_option maxRecDepth 100000
namespace VL
open PySem PySem.Spec L2
open PyProof.Rows hiding St

/-! ## evaluation -/
theorem restFrom_wipe (vs : List Nat) (S : Sl) : restFrom vs 0 (S.wipe vs) S = S := by
  apply List.ext_getElem?
  intro j
  rw [restFrom_get _ _ _ _ _ (wipe_len _ _), Nat.zero_add, wipe_get]
  by_cases hj : j ∈ vs
  · rw [if_pos (by simpa using hj)]
  · rw [if_neg (by simpa using hj)]
    cases S[j]? with
    | none => rfl
    | some c => simp [hj]
/-- a turn of a pure block: the item is left out, or gives y -/
def Turn1 (ga : D → Sl → Option Sl) (gt : Sl → R Bool) (ge : Sl → R D) (S : Sl) (x : D) (o : Option D) : Prop :=
  ∃ S1, ga x S = some S1 ∧ match o with
    | none => ∃ S2, gt S1 = .ok false S2
    | some y => ∃ S2 S3, gt S1 = .ok true S2 ∧ ge S2 = .ok y S3
theorem loopLc_pure {vs : List Nat} {ga : D → Sl → Option Sl} {gt : Sl → R Bool} {ge : Sl → R D} {S : Sl} (f : D → Option D) : ∀ {xs : List D}, (∀ x ∈ xs, Turn1 ga gt ge S x (f x)) → loopLc true vs ga gt ge xs S = .ok (xs.filterMap f) S
  | [], _ => rfl
  | x :: xs, h => by
    obtain ⟨S1, h1, h2⟩ := h x (by simp)
    have ih := loopLc_pure (vs := vs) f (xs := xs) fun y hy => h y (by simp [hy])
    cases hf : f x with
    | none =>
      rw [hf] at h2
      obtain ⟨S2, h2⟩ := h2
      simp only [loopLc, h1, h2, R.bind, Bool.true_or, if_true, Bool.false_eq_true, if_false, ih]
      simp [List.filterMap_cons, hf]
    | some y =>
      rw [hf] at h2
      obtain ⟨S2, S3, h2, h3⟩ := h2
      simp only [loopLc, h1, h2, h3, R.bind, Bool.true_or, if_true, ih]
      simp [List.filterMap_cons, hf]
theorem gLc_pure {vs : List Nat} {gi : Sl → R (List D)} {ga : D → Sl → Option Sl} {gt : Sl → R Bool} {ge : Sl → R D} {S : Sl} {xs : List D} (f : D → Option D) (hi : gi S = .ok xs S) (hw : wipeOk vs S = true) (hl : xs.length ≤ 16777216) (h : ∀ x ∈ xs, Turn1 ga gt ge (S.wipe vs) x (f x)) :
    gLc true vs gi ga gt ge S = .ok ⟨false, 1, .lst (xs.filterMap f)⟩ S := by
  unfold gLc
  rw [hi]
  simp only [R.bind, hw, lineOk, hl, decide_true, Bool.and_self, if_true]
  rw [loopLc_pure f h]
  simp only [R.noerr, R.bind, restFrom_wipe]
/-- a loop by its invariant -/
theorem loopFor_inv {ga : D → Sl → Option Sl} {gb : Sl → R Out} (I : Nat → Sl → Prop) : ∀ {xs : List D} {i : Nat} {S : Sl}, I i S → (∀ j x S, xs[j]? = some x → I (i + j) S → ∃ S1 S2 o, ga x S = some S1 ∧ gb S1 = .ok o S2 ∧ (o = .nx ∨ o = .ct) ∧ I (i + j + 1) S2) → ∃ S', loopFor ga gb xs S = .ok .nx S' ∧ I (i + xs.length) S'
  | [], i, S, h0, _ => ⟨S, rfl, h0⟩
  | x :: xs, i, S, h0, h => by
    obtain ⟨S1, S2, o, h1, h2, h3, h4⟩ := h 0 x S rfl h0
    obtain ⟨S', e1, e2⟩ := loopFor_inv (ga := ga) (gb := gb) I (xs := xs) (i := i + 1) (S := S2) h4 fun j y S hy hI => by
      have := h (j + 1) y S (by simpa using hy) (by rw [show i + (j + 1) = i + 1 + j by omega]; exact hI)
      rw [show i + (j + 1) + 1 = i + 1 + j + 1 by omega] at this
      exact this
    refine ⟨S', ?_, by rw [List.length_cons, show i + (xs.length + 1) = i + 1 + xs.length by omega]; exact e2⟩
    simp only [loopFor, h1, h2, R.bind]
    rcases h3 with rfl | rfl <;> exact e1
/-- a loop that may return: the first item for which it does -/
theorem loopFor_find {ga : D → Sl → Option Sl} {gb : Sl → R Out} (I J : Sl → Prop) (P : D → Bool) (v : Vl) : ∀ {xs : List D} {S : Sl}, I S → (∀ x ∈ xs, ∀ S, I S → ∃ S1 S2, ga x S = some S1 ∧ (if P x then gb S1 = .ok (.rt v) S2 ∧ J S2 else (gb S1 = .ok .nx S2 ∨ gb S1 = .ok .ct S2) ∧ I S2)) →
    ∃ S', if xs.any P then loopFor ga gb xs S = .ok (.rt v) S' ∧ J S' else loopFor ga gb xs S = .ok .nx S' ∧ I S'
  | [], S, h0, _ => ⟨S, by simp [loopFor, h0]⟩
  | x :: xs, S, h0, h => by
    obtain ⟨S1, S2, h1, h2⟩ := h x (by simp) S h0
    cases hp : P x with
    | true =>
      rw [if_pos hp] at h2
      exact ⟨S2, by simp [loopFor, h1, h2.1, h2.2, hp]⟩
    | false =>
      rw [if_neg (by simp [hp])] at h2
      obtain ⟨S', e⟩ := loopFor_find (ga := ga) (gb := gb) I J P v (xs := xs) (S := S2) h2.2 fun y hy => h y (by simp [hy])
      refine ⟨S', ?_⟩
      have e2 : loopFor ga gb (x :: xs) S = loopFor ga gb xs S2 := by
        rcases h2.1 with h3 | h3 <;> simp [loopFor, h1, h3]
      rw [e2]
      simpa [hp] using e
/-! data of ints -/
theorem pyL_ints (l : List Int) : D.pyL (l.map D.int) = l.map PyData.int := by
  induction l with
  | nil => rfl
  | cons x l ih => simp [D.pyL, D.py, ih]
theorem plainL_ints (l : List Int) : D.plainL (l.map D.int) = true := by
  induction l with
  | nil => rfl
  | cons x l ih => simp [D.plainL, D.plain, ih]
theorem eqv_int (a b : Int) : PyData.eqv (.int a) (.int b) = (a == b) := by first | rfl | simp [PyData.eqv]
theorem dInB_int (i : Int) (l : List Int) : dInB (.int i) (l.map D.int) = decide (i ∈ l) := by
  unfold dInB
  rw [pyL_ints, List.any_map]
  have : (fun x : Int => PyData.eqv (.int x) (.int i)) = fun x => x == i := by funext x; exact eqv_int x i
  show l.any (fun x => PyData.eqv (.int x) (.int i)) = _
  rw [this]
  apply Bool.eq_iff_iff.mpr
  simp
theorem okIn_int (i : Int) (l : List Int) : okIn (.int i) (l.map D.int) = true := by
  unfold okIn
  rw [plainL_ints]
  simp [D.plain, D.py, PyData.depth]
theorem dIn_lst (neg : Bool) (i : Int) (l : List Int) : dIn neg (.int i) (.lst (l.map D.int)) = some (.bl (if neg then !decide (i ∈ l) else decide (i ∈ l))) := by
  simp [dIn, D.items, okIn_int, dInB_int]
theorem dIn_tup (neg : Bool) (i : Int) (l : List Int) : dIn neg (.int i) (.tup (l.map D.int)) = some (.bl (if neg then !decide (i ∈ l) else decide (i ∈ l))) := by
  simp [dIn, D.items, okIn_int, dInB_int]
theorem dEq_int (neg : Bool) (a b : Int) : dEq neg (.int a) (.int b) = some (.bl (if neg then !(a == b) else a == b)) := by
  simp [dEq, okEq, D.plain, D.py, PyData.depth, dEqB, eqv_int]
theorem filterMap_filter {α : Type} (p : α → Bool) (l : List α) : l.filterMap (fun x => if p x then some x else none) = l.filter p := by
  induction l with
  | nil => rfl
  | cons x l ih =>
    simp only [List.filterMap_cons, List.filter_cons]
    by_cases h : p x <;> simp [h, ih]
/-- [x for x in xs if p(x)] -/
theorem gLc_filter {vs : List Nat} {v : Nat} {gi : Sl → R (List D)} {gt : Sl → R Bool} {S : Sl} {xs : List D} (p : D → Bool) (hi : gi S = .ok xs S) (hw : wipeOk vs S = true) (hl : xs.length ≤ 16777216) (hv : (S.wipe vs)[v]? = some ⟨false, none⟩)
    (h : ∀ x ∈ xs, gt ((S.wipe vs).put v (some (0, x))) = .ok (p x) ((S.wipe vs).put v (some (0, x)))) : gLc true vs gi (gaName v) gt (gVar v) S = .ok ⟨false, 1, .lst (xs.filter p)⟩ S := by
  rw [gLc_pure (fun x => if p x then some x else none) hi hw hl fun x hx => ?_, filterMap_filter]
  refine ⟨(S.wipe vs).put v (some (0, x)), by simp only [gaName, hv], ?_⟩
  have hg : gVar v ((S.wipe vs).put v (some (0, x))) = .ok x ((S.wipe vs).put v (some (0, x))) := by
    unfold gVar
    rw [put_at hv, if_pos rfl]
  have := h x hx
  cases hp : p x with
  | true =>
    rw [hp] at this
    rw [if_pos rfl]
    exact ⟨_, _, this, hg⟩
  | false =>
    rw [hp] at this
    rw [if_neg (by simp)]
    exact ⟨_, this⟩
theorem filter_ints (p : D → Bool) (l : List Int) : (l.map D.int).filter p = (l.filter fun i => p (.int i)).map D.int := by
  rw [List.filter_map]; rfl
/-- .. of ints -/
theorem gLc_filterI {vs : List Nat} {v : Nat} {gi : Sl → R (List D)} {gt : Sl → R Bool} {S : Sl} {l : List Int} (p : Int → Bool) (hi : gi S = .ok (l.map D.int) S) (hw : wipeOk vs S = true) (hl : l.length ≤ 16777216) (hv : (S.wipe vs)[v]? = some ⟨false, none⟩)
    (h : ∀ i ∈ l, gt ((S.wipe vs).put v (some (0, .int i))) = .ok (p i) ((S.wipe vs).put v (some (0, .int i)))) : gLc true vs gi (gaName v) gt (gVar v) S = .ok ⟨false, 1, .lst ((l.filter p).map D.int)⟩ S := by
  rw [gLc_filter (fun d => match d with | .int i => p i | _ => false) hi hw (by simpa using hl) hv fun x hx => ?_, filter_ints]
  obtain ⟨i, hi, rfl⟩ := List.mem_map.mp hx
  exact h i hi
/-- [e(x) for x in xs if p(x)], the items told by a map -/
theorem loopLc_map {α : Type} (c : α → D) (p : α → Bool) (e : α → D) {vs : List Nat} {ga : D → Sl → Option Sl} {gt : Sl → R Bool} {ge : Sl → R D} {S : Sl} : ∀ {L : List α}, (∀ a ∈ L, Turn1 ga gt ge S (c a) (if p a then some (e a) else none)) → loopLc true vs ga gt ge (L.map c) S = .ok ((L.filter p).map e) S
  | [], _ => rfl
  | a :: L, h => by
    obtain ⟨S1, h1, h2⟩ := h a (by simp)
    have ih := loopLc_map c p e (vs := vs) (L := L) fun y hy => h y (by simp [hy])
    cases hf : p a with
    | false =>
      rw [if_neg (by simp [hf])] at h2
      obtain ⟨S2, h2⟩ := h2
      simp only [List.map_cons, loopLc, h1, h2, R.bind, Bool.true_or, if_true, Bool.false_eq_true, if_false, ih]
      simp [List.filter_cons, hf]
    | true =>
      rw [if_pos hf] at h2
      obtain ⟨S2, S3, h2, h3⟩ := h2
      simp only [List.map_cons, loopLc, h1, h2, h3, R.bind, Bool.true_or, if_true, ih]
      simp [List.filter_cons, hf]
theorem gLc_map {α : Type} (c : α → D) (p : α → Bool) (e : α → D) {vs : List Nat} {v : Nat} {gi : Sl → R (List D)} {gt : Sl → R Bool} {ge : Sl → R D} {S : Sl} {L : List α} (hi : gi S = .ok (L.map c) S) (hw : wipeOk vs S = true) (hl : L.length ≤ 16777216) (hv : (S.wipe vs)[v]? = some ⟨false, none⟩)
    (h : ∀ a ∈ L, gt ((S.wipe vs).put v (some (0, c a))) = .ok (p a) ((S.wipe vs).put v (some (0, c a))) ∧ (p a = true → ∃ S3, ge ((S.wipe vs).put v (some (0, c a))) = .ok (e a) S3)) :
    gLc true vs gi (gaName v) gt ge S = .ok ⟨false, 1, .lst ((L.filter p).map e)⟩ S := by
  unfold gLc
  rw [hi]
  simp only [R.bind, hw, lineOk, List.length_map, hl, decide_true, Bool.and_self, if_true]
  rw [loopLc_map c p e fun a ha => ?_]
  · simp only [R.noerr, R.bind, restFrom_wipe]
  · refine ⟨(S.wipe vs).put v (some (0, c a)), by simp only [gaName, hv], ?_⟩
    obtain ⟨h1, h2⟩ := h a ha
    cases hp : p a with
    | true =>
      rw [hp] at h1
      obtain ⟨S3, h3⟩ := h2 hp
      exact ⟨_, S3, h1, h3⟩
    | false =>
      rw [hp] at h1
      exact ⟨_, h1⟩
/-- a loop that may return, the items told by a map -/
theorem loopFor_findM {α : Type} (c : α → D) {ga : D → Sl → Option Sl} {gb : Sl → R Out} (I J : Sl → Prop) (P : α → Bool) (v : Vl) : ∀ {L : List α} {S : Sl}, I S → (∀ a ∈ L, ∀ S, I S → ∃ S1 S2, ga (c a) S = some S1 ∧ (if P a then gb S1 = .ok (.rt v) S2 ∧ J S2 else (gb S1 = .ok .nx S2 ∨ gb S1 = .ok .ct S2) ∧ I S2)) →
    ∃ S', if L.any P then loopFor ga gb (L.map c) S = .ok (.rt v) S' ∧ J S' else loopFor ga gb (L.map c) S = .ok .nx S' ∧ I S'
  | [], S, h0, _ => ⟨S, by simp [loopFor, h0]⟩
  | x :: xs, S, h0, h => by
    obtain ⟨S1, S2, h1, h2⟩ := h x (by simp) S h0
    cases hp : P x with
    | true =>
      rw [if_pos hp] at h2
      exact ⟨S2, by simp [loopFor, h1, h2.1, h2.2, hp]⟩
    | false =>
      rw [if_neg (by simp [hp])] at h2
      obtain ⟨S', e⟩ := loopFor_findM c (ga := ga) (gb := gb) I J P v (L := xs) (S := S2) h2.2 fun y hy => h y (by simp [hy])
      refine ⟨S', ?_⟩
      have e2 : loopFor ga gb ((x :: xs).map c) S = loopFor ga gb (xs.map c) S2 := by
        rcases h2.1 with h3 | h3 <;> simp [loopFor, h1, h3]
      rw [e2]
      simpa [hp] using e
theorem gThen_nx {a b : Sl → R Out} {S S1 : Sl} (h : a S = .ok .nx S1) : gThen a b S = b S1 := by unfold gThen; rw [h]
theorem gThen_rt {a b : Sl → R Out} {S S1 : Sl} {x : Vl} (h : a S = .ok (.rt x) S1) : gThen a b S = .ok (.rt x) S1 := by unfold gThen; rw [h]
theorem gThen_ct {a b : Sl → R Out} {S S1 : Sl} (h : a S = .ok .ct S1) : gThen a b S = .ok .ct S1 := by unfold gThen; rw [h]
theorem gThen_err {a b : Sl → R Out} {S S1 : Sl} {c : Addr} {w : Option (Str × D)} (h : a S = .err c w S1) : gThen a b S = .err c w S1 := by unfold gThen; rw [h]
theorem gFor_eq {gi : Sl → R (List D)} {ga : D → Sl → Option Sl} {gb : Sl → R Out} {S S1 : Sl} {xs : List D} (h : gi S = .ok xs S1) : gFor gi ga gb S = loopFor ga gb xs S1 := by unfold gFor; rw [h]
theorem gSet_eq {i : Nat} {g : Sl → R Vl} {S S1 : Sl} {k : Nat} {d : D} {v : Option (Nat × D)} (h : g S = .ok ⟨false, k, d⟩ S1) (hc : S1[i]? = some ⟨false, v⟩) : gSet i g S = .ok .nx (S1.put i (some (k, d))) := by
  unfold gSet; rw [h]; simp [R.bind, hc]
theorem gIfS_t {c : Sl → R Bool} {a b : Sl → R Out} {S S1 : Sl} (h : c S = .ok true S1) : gIfS c a b S = a S1 := by unfold gIfS; rw [h]; rfl
theorem gIfS_f {c : Sl → R Bool} {a b : Sl → R Out} {S S1 : Sl} (h : c S = .ok false S1) : gIfS c a b S = b S1 := by unfold gIfS; rw [h]; rfl
theorem gFz_eq {g : Sl → R Vl} {S S1 : Sl} {k : Nat} {d : D} (h : g S = .ok ⟨false, k, d⟩ S1) : gV (gD g) S = .ok ⟨false, 0, d⟩ S1 := by unfold gV gD; rw [h]; rfl
theorem fnSem_rt {n m : Nat} {gb : Sl → R Out} {T S' : Sl} {x : Vl} (h : gb (T ++ List.replicate m ⟨false, none⟩) = .ok (.rt x) S') (hl : n ≤ S'.length) : fnSem n m gb T = .ok x (keepN n S') := by unfold fnSem; rw [h]; simp [hl]
theorem fnSem_err {n m : Nat} {gb : Sl → R Out} {T S' : Sl} {c : Addr} {w : Option (Str × D)} (h : gb (T ++ List.replicate m ⟨false, none⟩) = .err c w S') (hl : n ≤ S'.length) : fnSem n m gb T = .err c w (keepN n S') := by unfold fnSem; rw [h]; simp [hl]
theorem gCallP_eq {f : Sl → R Vl} {ga : Sl → R (List Ar)} {S S1 T T' : Sl} {as : List Ar} {x : Vl} (h : ga S = .ok as S1) (ha : allV as = true) (hT : argSl as S1 = some T) (hf : f T = .ok x T') : gCallP f ga S = .ok x S1 := by
  unfold gCallP; rw [h]; simp [R.bind, ha, hT, hf]
theorem sIx_none0 {n : Nat} {d : Nat} : HT.sIx n d none = d := by first | rfl | simp [HT.sIx]
theorem sIx_nat {n k d : Nat} (h : k ≤ n) : HT.sIx n d (some (k : Int)) = k := by
  rw [HT.sIx_nat]
  exact Nat.min_eq_left h
theorem cutD_take {α : Type} {xs : List α} {k : Nat} (h : k ≤ xs.length) : cutD xs none (some (k : Int)) = xs.take k := by
  unfold cutD
  rw [sIx_none0, sIx_nat h]
  simp
theorem cutD_drop {α : Type} {xs : List α} {k : Nat} (h : k ≤ xs.length) : cutD xs (some (k : Int)) none = xs.drop k := by
  unfold cutD
  rw [sIx_nat h, sIx_none0]
  exact List.take_of_length_le (by simp)
theorem atI_nat {α : Type} {xs : List α} {k : Nat} (h : k < xs.length) : atI xs (k : Int) = some xs[k] := by
  unfold atI ixN
  simp [h]
theorem rangeD_map (n : Nat) : rangeD 0 n = (List.range n).map fun i => D.int (i : Nat) := by
  unfold rangeD
  simp
end VL

set_option Elab.async false
set_option linter.all false
set_option autoImplicit false
set_option maxRecDepth 100000
namespace VL
open PySem PySem.Spec L2
open PyProof.Rows hiding St

def tI (l : List Int) : D := .tup (l.map D.int)
def lI (l : List Int) : D := .lst (l.map D.int)
theorem dataLe_int (a b : Int) : PySem.W.dataLe false D.py (.int a) (.int b) = decide (a ≤ b) := by
  have h := PySem.W.dataLt_int b a
  show (!(PySem.W.dataLt (.int b) (.int a))) = _
  rw [h]; apply Bool.eq_iff_iff.mpr; simp
def srt (l : List Int) : List Int := l.mergeSort fun a b => decide (a ≤ b)
theorem srt_perm (l : List Int) : (srt l).Perm l := List.mergeSort_perm l _
theorem srt_len (l : List Int) : (srt l).length = l.length := (srt_perm l).length_eq
theorem srt_mem {l : List Int} {x : Int} : x ∈ srt l ↔ x ∈ l := (srt_perm l).mem_iff
theorem srt_sorted (l : List Int) : (srt l).Pairwise (fun a b => a ≤ b) := by
  have := List.pairwise_mergeSort (le := fun (a b : Int) => decide (a ≤ b)) (fun a b c h1 h2 => by simp at *; omega) (fun a b => by simp; omega) l
  exact this.imp (by simp)
theorem srt_eq {a b : List Int} : srt a = srt b ↔ a.Perm b := by
  constructor
  · intro h
    exact (srt_perm a).symm.trans (h ▸ srt_perm b)
  · intro h
    exact List.Perm.eq_of_pairwise (le := fun a b => a ≤ b) (fun x y _ _ h1 h2 => Int.le_antisymm h1 h2) (srt_sorted a) (srt_sorted b) ((srt_perm a).trans (h.trans (srt_perm b).symm))
theorem alikeAll_ints : ∀ a b : List Int, PySem.W.alikeAll (a.map PyData.int) (b.map PyData.int) = true
  | [], _ => by simp [PySem.W.alikeAll]
  | _ :: _, [] => by simp [PySem.W.alikeAll]
  | x :: a, y :: b => by simp [PySem.W.alikeAll, PySem.W.alike, alikeAll_ints a b]
theorem depthAll_ints : ∀ l : List Int, PyData.depthAll (l.map PyData.int) ≤ 1
  | [] => by simp [PyData.depthAll]
  | x :: l => by
    have := depthAll_ints l
    simp [PyData.depthAll, PyData.depth]; omega
theorem py_tI (l : List Int) : (tI l).py = .tuple (l.map PyData.int) := by simp [tI, D.py, pyL_ints]
theorem plain_tI (l : List Int) : (tI l).plain = true := by simp [tI, D.plain, plainL_ints]
theorem sortOk_ints (l : List Int) (hl : l.length ≤ 16777216) : sortOk (l.map D.int) = true := by
  simp [sortOk, lineOk, hl, D.plain, D.py, PySem.W.alike, D.isTup, D.isNon, PyData.depth]
theorem sortOk_rows (L : List (List Int)) (hl : L.length ≤ 16777216) : sortOk (L.map tI) = true := by
  have h1 : ∀ l : List Int, (tI l).isTup = true := fun _ => rfl
  have h2 : ∀ l : List Int, (tI l).py.depth ≤ 60 := fun l => by
    rw [py_tI]; have := depthAll_ints l; simp [PyData.depth]; omega
  simp only [sortOk, lineOk, List.length_map, hl, decide_true, Bool.true_and, Bool.and_eq_true, List.all_map, List.all_eq_true, Function.comp, decide_eq_true_eq, Bool.or_eq_true]
  refine ⟨⟨⟨fun x _ => plain_tI x, fun x _ y _ => ?_⟩, .inl fun x _ => h1 x⟩, fun x _ => h2 x⟩
  rw [py_tI, py_tI, PySem.W.alike]; exact alikeAll_ints x y
theorem dSorted_ints {d : D} {l : List Int} (h : d = tI l ∨ d = lI l) (hl : l.length ≤ 16777216) : dSorted d = some ((srt l).map D.int) := by
  have e : (l.map D.int).mergeSort (PySem.W.dataLe false D.py) = (srt l).map D.int := by
    unfold srt
    rw [List.map_mergeSort (s := PySem.W.dataLe false D.py) (f := D.int) (r := fun a b => decide (a ≤ b)) (fun a _ b _ => (dataLe_int a b).symm)]
  rcases h with rfl | rfl <;> simp [dSorted, tI, lI, D.items, sortOk_ints l hl, e]
def srtR (L : List (List Int)) : List (List Int) := L.mergeSort fun a b => PySem.W.dataLe false D.py (tI a) (tI b)
theorem srtR_mem {L : List (List Int)} {x : List Int} : x ∈ srtR L ↔ x ∈ L := (List.mergeSort_perm L _).mem_iff
theorem dSorted_rows (L : List (List Int)) (hl : L.length ≤ 16777216) : dSorted (.lst (L.map tI)) = some ((srtR L).map tI) := by
  have e : (L.map tI).mergeSort (PySem.W.dataLe false D.py) = (srtR L).map tI := by
    unfold srtR
    rw [List.map_mergeSort (s := PySem.W.dataLe false D.py) (f := tI) (r := fun a b => PySem.W.dataLe false D.py (tI a) (tI b)) (fun a _ b _ => rfl)]
  simp [dSorted, D.items, sortOk_rows L hl, e]
theorem ints_map : ∀ l : List Int, D.ints (l.map D.int) = some l
  | [] => rfl
  | x :: l => by simp [D.ints, ints_map l]
theorem tints_map : ∀ L : List (List Int), D.tints (L.map tI) = some L
  | [] => rfl
  | x :: l => by
    have h := tints_map l
    show D.tints (.tup (x.map D.int) :: l.map tI) = _
    unfold D.tints
    rw [ints_map, h]
theorem dLenSet_rows (L : List (List Int)) (hl : L.length < 64) : dLenSet (.lst (L.map tI)) = some (.int (nub L).length) := by
  cases L with
  | nil => rfl
  | cons x L =>
    have h1 : D.ints ((x :: L).map tI) = none := by simp [tI, D.ints]
    simp only [dLenSet, List.length_map, hl, if_true, h1, tints_map]
theorem dLenSet_ints (l : List Int) (hl : l.length < 64) : dLenSet (lI l) = some (.int (nub l).length) := by
  simp only [lI, dLenSet, List.length_map, hl, if_true, ints_map]
theorem nub_len {α : Type} [DecidableEq α] : ∀ l : List α, (nub l).length ≤ l.length
  | [] => by simp [nub]
  | x :: l => by unfold nub; have := nub_len l; split <;> simp <;> omega
theorem nub_lt {α : Type} [DecidableEq α] : ∀ l : List α, (nub l).length < l.length ↔ ¬ l.Nodup
  | [] => by simp [nub]
  | x :: l => by
    have h1 := nub_lt l
    have h2 := nub_len l
    unfold nub
    by_cases hx : x ∈ l
    · simp [hx]; omega
    · simp [hx]; exact h1
end VL

set_option Elab.async false
set_option linter.all false
set_option autoImplicit false
set_option maxRecDepth 100000
set_option maxHeartbeats 4000000
namespace VL
open PySem PySem.Spec L2
open PyProof.Rows hiding St
def top (i : Nat) : Stmt := PySem.Challenge.pw_polywork_k16_shellings_judged.main.body.getD i (.Pass ⟨0, 0, 0, 0⟩)
structure Ev where
  cInvalidOrder : Addr
structure Txt (K : PySem.W.Frag) (mg : Str → Option Value) : Prop where
  z_abs : mg "abs" = none
  z_bool : mg "bool" = none
  z_enumerate : mg "enumerate" = none
  z_int : mg "int" = none
  z_isinstance : mg "isinstance" = none
  z_len : mg "len" = none
  z_list : mg "list" = none
  z_range : mg "range" = none
  z_set : mg "set" = none
  z_sorted : mg "sorted" = none
  z_str : mg "str" = none
  z_tuple : mg "tuple" = none
abbrev s_law_all_within : Stmt := top 15
abbrev N_law_all_within : List Str := [("sets" : Str), ("found" : Str), ("one" : Str), ("rows" : Str), ("item" : Str), ("row" : Str)]
abbrev P_law_all_within : List Str := [("sets" : Str)]
theorem sc_law_all_within : FnScope N_law_all_within P_law_all_within (defScope s_law_all_within) := ⟨rfl, rfl, rfl, by decide +kernel, rfl, by decide +kernel, by decide +kernel⟩
noncomputable def g_law_all_within (K : PySem.W.Frag) (ev : Ev) : Sl → R Out :=
  (gThen (gSet 1 gDnewT)
  (gThen (gFor (gSeq false (gV (gVar 0))) (gaName 2)
  (gThen (gSet 3 (gV (gD (gLst (gCons (gTup gNil) gNil)))))
  (gThen (gFor (gSeq false (gNew1 dSorted (gV (gVar 2)))) (gaName 4)
  (gSet 3 (gV (gD (gNew2 true dCat (gV (gVar 3)) (gLc true [(5 : Nat)] (gSeq true (gV (gVar 3))) (gaName 5) gYes (gCatT (gVar 5) (gTup (gCons (gVar 4) gNil)))))))))
  (gFor (gSeq false (gV (gVar 3))) (gaName 5)
  (gDPut 1 (gC (.bl true)) (gVar 5))))))
  (gRet (gNew1 dSorted (gListKeys 1)))))
noncomputable def f_law_all_within (K : PySem.W.Frag) (ev : Ev) : Sl → R Vl := fnSem 1 5 (g_law_all_within K ev)
theorem b_law_all_within {P : Program} {w : World} {K : PySem.W.Frag} {mg : Str → Option Value} {base : Heap} {ev : Ev} (T : Txt K mg) {f : Addr} (cdv : Value) (A : Around) (outer : List Env) (s : Shared) (H : Hp) (E : XK) (hr : Room 1 (A.deeper (envOfC "_law_all_within" (defScope s_law_all_within) s.heap.objs.size f cdv))) :
    VSs (cxOf (L2.CX P w) P w K mg base N_law_all_within "_law_all_within" (defScope s_law_all_within) f cdv A outer s H E) (fun cls d _ H => E cls d H) (defBody s_law_all_within) (g_law_all_within K ev) := by
  have hu : (cxOf (L2.CX P w) P w K mg base N_law_all_within "_law_all_within" (defScope s_law_all_within) f cdv A outer s H E).A.units + 64 < cLine := by
    have := hr.un
    show (A.deeper (envOfC "_law_all_within" (defScope s_law_all_within) s.heap.objs.size f cdv)).units + 64 < cLine
    omega
  unfold g_law_all_within
  exact (vss_cons (vs_set 1 ve_dnewT sc_law_all_within.nd)
  (vss_cons (vs_for vpasses rfl (vi_seq false (VD.v (vd_var 0))) (vg_name 2 sc_law_all_within.nd)
  (vss_cons (vs_set 3 (VD.v (VE.d (ve_lst (va_cons (vd_tup va_nil) va_nil)))) sc_law_all_within.nd)
  (vss_cons (vs_for vpasses rfl (vi_seq false (ve_newB1 (cr_sortedE hu) cn_sorted (VD.v (vd_var 2)) (hm := T.z_sorted) (hv := by decide +kernel))) (vg_name 4 sc_law_all_within.nd)
  (vss_one (vs_set 3 (VD.v (VE.d (ve_op2 op_cat opn_cat (VD.v (vd_var 3)) (ve_lc (own := [(("row" : Str), 5)]) (pu := true) rfl sc_law_all_within.nd (vi_seq true (VD.v (vd_var 3))) (blkOk_by (by rfl)) (fun _ _ _ _ _ => (vg_name 5 sc_law_all_within.nd)) (fun _ _ _ _ _ => vts_nil) (fun _ _ _ _ _ => (vd_catT (vd_var 5) (vd_tup (va_cons (vd_var 4) va_nil)))) (by rfl) rfl (by decide))))) sc_law_all_within.nd)))
  (vss_one (vs_for vpasses rfl (vi_seq false (VD.v (vd_var 3))) (vg_name 5 sc_law_all_within.nd)
  (vss_one (vs_dput 1 vd_bl (vd_var 5) hu)))))))
  (vss_one (vs_ret (ve_newB1 (cr_sortedE hu) cn_sorted (ve_listKeys 1 rfl (hm := T.z_list)) (hm := T.z_sorted) (hv := by decide +kernel))))))
abbrev s_law_deck : Stmt := top 9
abbrev N_law_deck : List Str := [("script" : Str), ("cells" : Str), ("each" : Str), ("deck" : Str), ("seed" : Str), ("k" : Str), ("cell" : Str), ("rest" : Str), ("at" : Str)]
abbrev P_law_deck : List Str := [("script" : Str), ("cells" : Str), ("each" : Str)]
theorem sc_law_deck : FnScope N_law_deck P_law_deck (defScope s_law_deck) := ⟨rfl, rfl, rfl, by decide +kernel, rfl, by decide +kernel, by decide +kernel⟩
noncomputable def g_law_deck (K : PySem.W.Frag) (ev : Ev) : Sl → R Out :=
  (gThen (gSet 3 (gLst gNil))
  (gThen (gSet 4 (gV (gOp dAdd (gC (.int (7))) (gLenKl K 0))))
  (gThen (gFor (gIt dRange1 (gCons (gVar 1) gNil)) (gaName 5)
  (gThen (gSet 6 (gV (gC (.int (0)))))
  (gThen (gIfS (gBool (gOp dLt (gVar 5) (gLenKl K 0)))
  (gSet 6 (gV (gIxKl K 0 (gVar 5))))
  gNext)
  (gThen (gSet 7 (gV (gApp dAbs (gCons (gVar 6) gNil))))
  (gIfS (gBool (gOp dGe (gVar 7) (gOp dPow (gC (.int (10))) (gC (.int (30))))))
  (gFor (gIt dRange1 (gCons (gVar 2) gNil)) (gaName 8)
  (gThen (gDrop (gV (gApd 3 (gV (gOp dMod (gApp dInt (gCons (gVar 7) gNil)) (gC (.int (1000003))))))))
  (gSet 7 (gV (gOp dDiv (gVar 7) (gC (.int (1000003))))))))
  (gThen (gSet 4 (gV (gOp dMod (gApp dInt (gCons (gOp dAdd (gOp dAdd (gOp dAdd (gOp dMul (gVar 4) (gC (.int (48271)))) (gOp dMul (gC (.int (2))) (gVar 7))) (gApp dInt (gCons (gOp dLt (gVar 6) (gC (.int (0)))) gNil))) (gVar 5)) gNil)) (gC (.int (2147483647))))))
  (gFor (gIt dRange1 (gCons (gVar 2) gNil)) (gaName 8)
  (gThen (gSet 4 (gV (gOp dMod (gApp dInt (gCons (gOp dAdd (gOp dAdd (gOp dMul (gVar 4) (gC (.int (69621)))) (gVar 8)) (gC (.int (1)))) gNil)) (gC (.int (2147483629))))))
  (gDrop (gV (gApd 3 (gV (gOp dMod (gApp dInt (gCons (gOp dDiv (gVar 4) (gC (.int (5)))) gNil)) (gC (.int (1000003))))))))))))))))
  (gThen (gDrop (gV (gRev 3)))
  (gRet (gMov 3))))))
noncomputable def f_law_deck (K : PySem.W.Frag) (ev : Ev) : Sl → R Vl := fnSem 3 6 (g_law_deck K ev)
theorem b_law_deck {P : Program} {w : World} {K : PySem.W.Frag} {mg : Str → Option Value} {base : Heap} {ev : Ev} (T : Txt K mg) {f : Addr} (cdv : Value) (A : Around) (outer : List Env) (s : Shared) (H : Hp) (E : XK) (hr : Room 1 (A.deeper (envOfC "_law_deck" (defScope s_law_deck) s.heap.objs.size f cdv))) :
    VSs (cxOf (L2.CX P w) P w K mg base N_law_deck "_law_deck" (defScope s_law_deck) f cdv A outer s H E) (fun cls d _ H => E cls d H) (defBody s_law_deck) (g_law_deck K ev) := by
  have hu : (cxOf (L2.CX P w) P w K mg base N_law_deck "_law_deck" (defScope s_law_deck) f cdv A outer s H E).A.units + 64 < cLine := by
    have := hr.un
    show (A.deeper (envOfC "_law_deck" (defScope s_law_deck) s.heap.objs.size f cdv)).units + 64 < cLine
    omega
  unfold g_law_deck
  exact (vss_cons (vs_set 3 (ve_lst va_nil) sc_law_deck.nd)
  (vss_cons (vs_set 4 (VD.v (vd_op op_add opd_I0 vd_int (vd_lenKl 0 T.z_len))) sc_law_deck.nd)
  (vss_cons (vs_for vpasses rfl (vi_range1 false (va_cons (vd_var 1) va_nil) T.z_range) (vg_name 5 sc_law_deck.nd)
  (vss_cons (vs_set 6 (VD.v vd_int) sc_law_deck.nd)
  (vss_cons (vs_if (vt_cmp op_lt opd_B (nomark _) (vd_var 5) (vd_lenKl 0 T.z_len))
  (vss_one (vs_set 6 (VD.v (vd_ixKl 0 (vd_var 5))) sc_law_deck.nd))
  vss_nil)
  (vss_cons (vs_set 7 (VD.v (vd_callB call_abs cd_abs (va_cons (vd_var 6) va_nil) (hm := T.z_abs) (hv := by decide +kernel))) sc_law_deck.nd)
  (vss_one (vs_if (vt_cmp op_ge opd_B (nomark _) (vd_var 7) (vd_op op_pow opd_pow vd_int vd_int))
  (vss_one (vs_for vpasses rfl (vi_range1 false (va_cons (vd_var 2) va_nil) T.z_range) (vg_name 8 sc_law_deck.nd)
  (vss_cons (vs_expr (VD.v (vd_append 3 (VD.v (vd_op op_mod opd_mod (vd_callTy call_int1 cd_int (va_cons (vd_var 7) va_nil) (hm := T.z_int) (hv := by decide +kernel)) vd_int)))))
  (vss_one (vs_set 7 (VD.v (vd_op op_fdiv opd_div (vd_var 7) vd_int)) sc_law_deck.nd)))))
  (vss_cons (vs_set 4 (VD.v (vd_op op_mod opd_mod (vd_callTy call_int1 cd_int (va_cons (vd_op op_add opd_I0 (vd_op op_add opd_I0 (vd_op op_add opd_I0 (vd_op op_mul opd_mul (vd_var 4) vd_int) (vd_op op_mul opd_mul vd_int (vd_var 7))) (vd_callTy call_int1 cd_int (va_cons (vd_cmp op_lt opd_B (nomark _) (vd_var 6) vd_int) va_nil) (hm := T.z_int) (hv := by decide +kernel))) (vd_var 5)) va_nil) (hm := T.z_int) (hv := by decide +kernel)) vd_int)) sc_law_deck.nd)
  (vss_one (vs_for vpasses rfl (vi_range1 false (va_cons (vd_var 2) va_nil) T.z_range) (vg_name 8 sc_law_deck.nd)
  (vss_cons (vs_set 4 (VD.v (vd_op op_mod opd_mod (vd_callTy call_int1 cd_int (va_cons (vd_op op_add opd_I0 (vd_op op_add opd_I0 (vd_op op_mul opd_mul (vd_var 4) vd_int) (vd_var 8)) vd_int) va_nil) (hm := T.z_int) (hv := by decide +kernel)) vd_int)) sc_law_deck.nd)
  (vss_one (vs_expr (VD.v (vd_append 3 (VD.v (vd_op op_mod opd_mod (vd_callTy call_int1 cd_int (va_cons (vd_op op_fdiv opd_div (vd_var 4) vd_int) va_nil) (hm := T.z_int) (hv := by decide +kernel)) vd_int))))))))))))))))
  (vss_cons (vs_expr (VD.v (vd_reverse 3)))
  (vss_one (vs_ret (ve_mov 3)))))))
abbrev s_law_take : Stmt := top 10
abbrev N_law_take : List Str := [("deck" : Str), ("many" : Str)]
abbrev P_law_take : List Str := [("deck" : Str), ("many" : Str)]
theorem sc_law_take : FnScope N_law_take P_law_take (defScope s_law_take) := ⟨rfl, rfl, rfl, by decide +kernel, rfl, by decide +kernel, by decide +kernel⟩
noncomputable def g_law_take (K : PySem.W.Frag) (ev : Ev) : Sl → R Out :=
  (gThen (gIfS (gBool (gOpV true (dEq false) (gV (gApp1 dLen (gBor 0))) (gV (gC (.int (0))))))
  (gRet (gV (gC (.int (0)))))
  gNext)
  (gRet (gV (gOp dMod (gApp dInt (gCons (gD (gPop 0)) gNil)) (gVar 1)))))
noncomputable def f_law_take (K : PySem.W.Frag) (ev : Ev) : Sl → R Vl := fnSem 2 0 (g_law_take K ev)
theorem b_law_take {P : Program} {w : World} {K : PySem.W.Frag} {mg : Str → Option Value} {base : Heap} {ev : Ev} (T : Txt K mg) {f : Addr} (cdv : Value) (A : Around) (outer : List Env) (s : Shared) (H : Hp) (E : XK) (hr : Room 1 (A.deeper (envOfC "_law_take" (defScope s_law_take) s.heap.objs.size f cdv))) :
    VSs (cxOf (L2.CX P w) P w K mg base N_law_take "_law_take" (defScope s_law_take) f cdv A outer s H E) (fun cls d _ H => E cls d H) (defBody s_law_take) (g_law_take K ev) := by
  have hu : (cxOf (L2.CX P w) P w K mg base N_law_take "_law_take" (defScope s_law_take) f cdv A outer s H E).A.units + 64 < cLine := by
    have := hr.un
    show (A.deeper (envOfC "_law_take" (defScope s_law_take) s.heap.objs.size f cdv)).units + 64 < cLine
    omega
  unfold g_law_take
  exact (vss_cons (vs_if (vt_cmpV (op_eqP hu) opv_eq (nomark _) (VD.v (vd_callB1 call_len cv_len (ve_bor 0) (hm := T.z_len) (hv := by decide +kernel))) (VD.v vd_int))
  (vss_one (vs_ret (VD.v vd_int)))
  vss_nil)
  (vss_one (vs_ret (VD.v (vd_op op_mod opd_mod (vd_callTy call_int1 cd_int (va_cons (VE.d (ve_pop 0)) va_nil) (hm := T.z_int) (hv := by decide +kernel)) (vd_var 1))))))
abbrev s_law_drawn : Stmt := top 16
abbrev N_law_drawn : List Str := [("deck" : Str), ("size" : Str), ("left" : Str), ("first" : Str), ("turn" : Str), ("found" : Str), ("row" : Str), ("at" : Str)]
abbrev P_law_drawn : List Str := [("deck" : Str)]
theorem sc_law_drawn : FnScope N_law_drawn P_law_drawn (defScope s_law_drawn) := ⟨rfl, rfl, rfl, by decide +kernel, rfl, by decide +kernel, by decide +kernel⟩
noncomputable def g_law_drawn (K : PySem.W.Frag) (ev : Ev) : Sl → R Out :=
  (gThen (gSet 1 (gV (gOp dAdd (gC (.int (1))) (gD (gCall (f_law_take K ev) (gArIo 0 (gArV (gC (.int (4))) gArN)))))))
  (gThen (gSet 2 (gLRange (gC (.int (8)))))
  (gThen (gSet 3 (gLst gNil))
  (gThen (gFor (gIt dRange1 (gCons (gVar 1) gNil)) (gaName 4)
  (gDrop (gV (gApd 3 (gPopAt 2 (gD (gCall (f_law_take K ev) (gArIo 0 (gArV (gApp1 dLen (gBor 2)) gArN)))))))))
  (gThen (gSet 5 (gLst (gCons (gTupOf (gBor 3)) gNil)))
  (gThen (gFor (gIt dRange1 (gCons (gD (gCall (f_law_take K ev) (gArIo 0 (gArV (gC (.int (7))) gArN)))) gNil)) (gaName 4)
  (gThen (gSet 6 (gNew1 dList (gIxN 5 (gD (gCall (f_law_take K ev) (gArIo 0 (gArV (gApp1 dLen (gBor 5)) gArN)))))))
  (gThen (gSetIx 6 (gD (gCall (f_law_take K ev) (gArIo 0 (gArV (gC (.int (8))) gArN)))) (gD (gCall (f_law_take K ev) (gArIo 0 (gArV (gVar 1) gArN)))))
  (gThen (gIfS (gBool (gOpV true (dEq false) (gCall (f_law_take K ev) (gArIo 0 (gArV (gC (.int (4))) gArN))) (gV (gC (.int (0))))))
  (gSetIx 6 (gD (gCall (f_law_take K ev) (gArIo 0 (gArV (gC (.int (8))) gArN)))) (gC (.int (0))))
  gNext)
  (gIfS (gBool (gOpV true (dEq false) (gV (gLenSet (gBor 6))) (gV (gVar 1))))
  (gThen (gSet 7 (gV (gD (gCall (f_law_take K ev) (gArIo 0 (gArV (gVar 1) gArN))))))
  (gDrop (gV (gApd 5 (gV (gTupOf (gNew2 true dCat (gSl true (gBor 6) (some (gVar 7)) none) (gSl true (gBor 6) none (some (gVar 7))))))))))
  gNext)))))
  (gRet (gMov 5))))))))
noncomputable def f_law_drawn (K : PySem.W.Frag) (ev : Ev) : Sl → R Vl := fnSem 1 7 (g_law_drawn K ev)
theorem b_law_drawn {P : Program} {w : World} {K : PySem.W.Frag} {mg : Str → Option Value} {base : Heap} {ev : Ev} (T : Txt K mg) (C_law_take : Cal P w K mg base 2 "_law_take" 2 (f_law_take K ev)) {f : Addr} (cdv : Value) (A : Around) (outer : List Env) (s : Shared) (H : Hp) (E : XK) (hr : Room 3 (A.deeper (envOfC "_law_drawn" (defScope s_law_drawn) s.heap.objs.size f cdv))) :
    VSs (cxOf (L2.CX P w) P w K mg base N_law_drawn "_law_drawn" (defScope s_law_drawn) f cdv A outer s H E) (fun cls d _ H => E cls d H) (defBody s_law_drawn) (g_law_drawn K ev) := by
  have hu : (cxOf (L2.CX P w) P w K mg base N_law_drawn "_law_drawn" (defScope s_law_drawn) f cdv A outer s H E).A.units + 64 < cLine := by
    have := hr.un
    show (A.deeper (envOfC "_law_drawn" (defScope s_law_drawn) s.heap.objs.size f cdv)).units + 64 < cLine
    omega
  unfold g_law_drawn
  exact (vss_cons (vs_set 1 (VD.v (vd_op op_add opd_I0 vd_int (VE.d (ve_callC C_law_take vtakes hr (by decide) (var_io 0 (var_v vd_int var_nil)) (arIo_len (arV_len arN_len)))))) sc_law_drawn.nd)
  (vss_cons (vs_set 2 (ve_lrange vd_int rfl T.z_range T.z_list) sc_law_drawn.nd)
  (vss_cons (vs_set 3 (ve_lst va_nil) sc_law_drawn.nd)
  (vss_cons (vs_for vpasses rfl (vi_range1 false (va_cons (vd_var 1) va_nil) T.z_range) (vg_name 4 sc_law_drawn.nd)
  (vss_one (vs_expr (VD.v (vd_append 3 (ve_popAt 2 (VE.d (ve_callC C_law_take vtakes hr (by decide) (var_io 0 (var_v (vd_callB1 call_len cv_len (ve_bor 2) (hm := T.z_len) (hv := by decide +kernel)) var_nil)) (arIo_len (arV_len arN_len))))))))))
  (vss_cons (vs_set 5 (ve_lst (va_cons (vd_tupOf (ve_bor 3) (hm := T.z_tuple)) va_nil)) sc_law_drawn.nd)
  (vss_cons (vs_for vpasses rfl (vi_range1 false (va_cons (VE.d (ve_callC C_law_take vtakes hr (by decide) (var_io 0 (var_v vd_int var_nil)) (arIo_len (arV_len arN_len)))) va_nil) T.z_range) (vg_name 4 sc_law_drawn.nd)
  (vss_cons (vs_set 6 (ve_newTy1 call_list_of cn_list (ve_ixN 5 (VE.d (ve_callC C_law_take vtakes hr (by decide) (var_io 0 (var_v (vd_callB1 call_len cv_len (ve_bor 5) (hm := T.z_len) (hv := by decide +kernel)) var_nil)) (arIo_len (arV_len arN_len))))) (hm := T.z_list) (hv := by decide +kernel)) sc_law_drawn.nd)
  (vss_cons (vs_setIx 6 (VE.d (ve_callC C_law_take vtakes hr (by decide) (var_io 0 (var_v vd_int var_nil)) (arIo_len (arV_len arN_len)))) (VE.d (ve_callC C_law_take vtakes hr (by decide) (var_io 0 (var_v (vd_var 1) var_nil)) (arIo_len (arV_len arN_len)))))
  (vss_cons (vs_if (vt_cmpV (op_eqP hu) opv_eq (nomark _) (ve_callC C_law_take vtakes hr (by decide) (var_io 0 (var_v vd_int var_nil)) (arIo_len (arV_len arN_len))) (VD.v vd_int))
  (vss_one (vs_setIx 6 (VE.d (ve_callC C_law_take vtakes hr (by decide) (var_io 0 (var_v vd_int var_nil)) (arIo_len (arV_len arN_len)))) vd_int))
  vss_nil)
  (vss_one (vs_if (vt_cmpV (op_eqP hu) opv_eq (nomark _) (VD.v (vd_lenSet (ve_bor 6) rfl hu (hm := T.z_len) (hm2 := T.z_set))) (VD.v (vd_var 1)))
  (vss_cons (vs_set 7 (VD.v (VE.d (ve_callC C_law_take vtakes hr (by decide) (var_io 0 (var_v (vd_var 1) var_nil)) (arIo_len (arV_len arN_len))))) sc_law_drawn.nd)
  (vss_one (vs_expr (VD.v (vd_append 5 (VD.v (vd_tupOf (ve_op2 op_cat opn_cat (ve_sl (q := true) (ve_bor 6) (vd_var 7) True.intro) (ve_sl (q := true) (ve_bor 6) True.intro (vd_var 7))) (hm := T.z_tuple))))))))
  vss_nil))))))
  (vss_one (vs_ret (ve_mov 5)))))))))
abbrev s_law_within : Stmt := top 12
abbrev N_law_within : List Str := [("one" : Str), ("other" : Str), ("item" : Str)]
abbrev P_law_within : List Str := [("one" : Str), ("other" : Str)]
theorem sc_law_within : FnScope N_law_within P_law_within (defScope s_law_within) := ⟨rfl, rfl, rfl, by decide +kernel, rfl, by decide +kernel, by decide +kernel⟩
noncomputable def g_law_within (K : PySem.W.Frag) (ev : Ev) : Sl → R Out :=
  (gRet (gV (gOpV true (dEq false) (gV (gApp1 dLen (gLc true [(2 : Nat)] (gSeq true (gV (gVar 0))) (gaName 2) (gBool (gOpV true (dIn true) (gV (gVar 2)) (gV (gVar 1)))) (gVar 2)))) (gV (gC (.int (0)))))))
noncomputable def f_law_within (K : PySem.W.Frag) (ev : Ev) : Sl → R Vl := fnSem 2 1 (g_law_within K ev)
theorem b_law_within {P : Program} {w : World} {K : PySem.W.Frag} {mg : Str → Option Value} {base : Heap} {ev : Ev} (T : Txt K mg) {f : Addr} (cdv : Value) (A : Around) (outer : List Env) (s : Shared) (H : Hp) (E : XK) (hr : Room 1 (A.deeper (envOfC "_law_within" (defScope s_law_within) s.heap.objs.size f cdv))) :
    VSs (cxOf (L2.CX P w) P w K mg base N_law_within "_law_within" (defScope s_law_within) f cdv A outer s H E) (fun cls d _ H => E cls d H) (defBody s_law_within) (g_law_within K ev) := by
  have hu : (cxOf (L2.CX P w) P w K mg base N_law_within "_law_within" (defScope s_law_within) f cdv A outer s H E).A.units + 64 < cLine := by
    have := hr.un
    show (A.deeper (envOfC "_law_within" (defScope s_law_within) s.heap.objs.size f cdv)).units + 64 < cLine
    omega
  unfold g_law_within
  exact (vss_one (vs_ret (VD.v (vd_cmpV (op_eqP hu) opv_eq (nomark _) (VD.v (vd_callB1 call_len cv_len (ve_lc (own := [(("item" : Str), 2)]) (pu := true) rfl sc_law_within.nd (vi_seq true (VD.v (vd_var 0))) (blkOk_by (by rfl)) (fun _ _ _ _ _ => (vg_name 2 sc_law_within.nd)) (fun _ _ _ _ _ => (vts_one (vt_cmpV (op_notInP hu) opv_in (by rfl) (VD.v (vd_var 2)) (VD.v (vd_var 1))))) (fun _ _ _ _ _ => (vd_var 2)) (by rfl) rfl (by decide)) (hm := T.z_len) (hv := by decide +kernel))) (VD.v vd_int)))))
abbrev s_law_fresh : Stmt := top 14
abbrev N_law_fresh : List Str := [("sets" : Str), ("found" : Str), ("at" : Str), ("row" : Str), ("item" : Str), ("rest" : Str), ("other" : Str), ("one" : Str)]
abbrev P_law_fresh : List Str := [("sets" : Str)]
theorem sc_law_fresh : FnScope N_law_fresh P_law_fresh (defScope s_law_fresh) := ⟨rfl, rfl, rfl, by decide +kernel, rfl, by decide +kernel, by decide +kernel⟩
noncomputable def g_law_fresh (K : PySem.W.Frag) (ev : Ev) : Sl → R Out :=
  (gThen (gSet 1 (gLst gNil))
  (gThen (gFor (gIt dRange1 (gCons (gApp1 dLen (gV (gVar 0))) gNil)) (gaName 2)
  (gThen (gSet 3 (gLst gNil))
  (gThen (gFor (gSeq false (gIxN 0 (gVar 2))) (gaName 4)
  (gThen (gSet 5 (gV (gD (gLc true [(6 : Nat)] (gSeq true (gIxN 0 (gVar 2))) (gaName 6) (gBool (gOpV true (dEq true) (gV (gVar 6)) (gV (gVar 4)))) (gVar 6)))))
  (gIfS (gBool (gOp dGt (gApp1 dLen (gLc true [(7 : Nat)] (gSeq true (gSl true (gV (gVar 0)) none (some (gVar 2)))) (gaName 7) (gTru (gCallP (f_law_within K ev) (gArV (gVar 5) (gArV (gVar 7) gArN)))) (gVar 7))) (gC (.int (0)))))
  (gDrop (gV (gApd 3 (gV (gVar 4)))))
  gNext)))
  (gDrop (gV (gApd 1 (gV (gTupOf (gBor 3)))))))))
  (gRet (gMov 1))))
noncomputable def f_law_fresh (K : PySem.W.Frag) (ev : Ev) : Sl → R Vl := fnSem 1 7 (g_law_fresh K ev)
theorem b_law_fresh {P : Program} {w : World} {K : PySem.W.Frag} {mg : Str → Option Value} {base : Heap} {ev : Ev} (T : Txt K mg) (C_law_within : Cal P w K mg base 2 "_law_within" 2 (f_law_within K ev)) {f : Addr} (cdv : Value) (A : Around) (outer : List Env) (s : Shared) (H : Hp) (E : XK) (hr : Room 3 (A.deeper (envOfC "_law_fresh" (defScope s_law_fresh) s.heap.objs.size f cdv))) :
    VSs (cxOf (L2.CX P w) P w K mg base N_law_fresh "_law_fresh" (defScope s_law_fresh) f cdv A outer s H E) (fun cls d _ H => E cls d H) (defBody s_law_fresh) (g_law_fresh K ev) := by
  have hu : (cxOf (L2.CX P w) P w K mg base N_law_fresh "_law_fresh" (defScope s_law_fresh) f cdv A outer s H E).A.units + 64 < cLine := by
    have := hr.un
    show (A.deeper (envOfC "_law_fresh" (defScope s_law_fresh) s.heap.objs.size f cdv)).units + 64 < cLine
    omega
  unfold g_law_fresh
  exact (vss_cons (vs_set 1 (ve_lst va_nil) sc_law_fresh.nd)
  (vss_cons (vs_for vpasses rfl (vi_range1 false (va_cons (vd_callB1 call_len cv_len (VD.v (vd_var 0)) (hm := T.z_len) (hv := by decide +kernel)) va_nil) T.z_range) (vg_name 2 sc_law_fresh.nd)
  (vss_cons (vs_set 3 (ve_lst va_nil) sc_law_fresh.nd)
  (vss_cons (vs_for vpasses rfl (vi_seq false (ve_ixN 0 (vd_var 2))) (vg_name 4 sc_law_fresh.nd)
  (vss_cons (vs_set 5 (VD.v (VE.d (ve_lc (own := [(("other" : Str), 6)]) (pu := true) rfl sc_law_fresh.nd (vi_seq true (ve_ixN 0 (vd_var 2))) (blkOk_by (by rfl)) (fun _ _ _ _ _ => (vg_name 6 sc_law_fresh.nd)) (fun _ _ _ _ _ => (vts_one (vt_cmpV (op_neP hu) opv_eq (nomark _) (VD.v (vd_var 6)) (VD.v (vd_var 4))))) (fun _ _ _ _ _ => (vd_var 6)) (by rfl) rfl (by decide)))) sc_law_fresh.nd)
  (vss_one (vs_if (vt_cmp op_gt opd_B (nomark _) (vd_callB1 call_len cv_len (ve_lc (own := [(("one" : Str), 7)]) (pu := true) rfl sc_law_fresh.nd (vi_seq true (ve_sl (q := true) (VD.v (vd_var 0)) True.intro (vd_var 2))) (blkOk_by (by rfl)) (fun _ _ _ _ _ => (vg_name 7 sc_law_fresh.nd)) (fun _ _ _ _ _ => (vts_one (vt_tru (ve_callP C_law_within takes0 hr (by decide) (var_v (vd_var 5) (var_v (vd_var 7) var_nil)) (arV_len (arV_len arN_len)))))) (fun _ _ _ _ _ => (vd_var 7)) (by rfl) rfl (by decide)) (hm := T.z_len) (hv := by decide +kernel)) vd_int)
  (vss_one (vs_expr (VD.v (vd_append 3 (VD.v (vd_var 4))))))
  vss_nil))))
  (vss_one (vs_expr (VD.v (vd_append 1 (VD.v (vd_tupOf (ve_bor 3) (hm := T.z_tuple))))))))))
  (vss_one (vs_ret (ve_mov 1)))))
abbrev s_law_plain : Stmt := top 11
abbrev N_law_plain : List Str := [("value" : Str), ("item" : Str)]
abbrev P_law_plain : List Str := [("value" : Str)]
theorem sc_law_plain : FnScope N_law_plain P_law_plain (defScope s_law_plain) := ⟨rfl, rfl, rfl, by decide +kernel, rfl, by decide +kernel, by decide +kernel⟩
noncomputable def g_law_plain (K : PySem.W.Frag) (ev : Ev) (self : Sl → R Vl) : Sl → R Out :=
  (gThen (gIfS (gTru (gV (gApp dIsi (gCons (gVar 0) (gCons (gTup (gCons (gC (.ty "tuple")) (gCons (gC (.ty "list")) gNil))) gNil)))))
  (gRet (gNew2 true dCat (gLst (gCons (gApp dIsi (gCons (gVar 0) (gCons (gC (.ty "list")) gNil))) gNil)) (gLc true [(1 : Nat)] (gSeq true (gV (gVar 0))) (gaName 1) gYes (gD (gCallP (self) (gArV (gVar 1) gArN))))))
  gNext)
  (gThen (gIfS (gOr (gBool (gOpV true (dIsN false) (gV (gVar 0)) (gV (gC .non)))) (gTru (gV (gApp dIsi (gCons (gVar 0) (gCons (gC (.ty "bool")) gNil))))))
  (gRet (gIx true (gLst (gCons (gC (.str "None")) (gCons (gC (.str "False")) (gCons (gC (.str "True")) gNil)))) (gOp dAdd (gApp dInt (gCons (gOpV true (dIsN true) (gV (gVar 0)) (gV (gC .non))) gNil)) (gApp dInt (gCons (gOp (dIsBl false) (gVar 0) (gC (.bl true))) gNil)))))
  gNext)
  (gThen (gIfS (gTru (gV (gApp dIsi (gCons (gVar 0) (gCons (gTup (gCons (gC (.ty "int")) (gCons (gC (.ty "str")) gNil))) gNil)))))
  (gRet (gLst (gCons (gApp dIsi (gCons (gVar 0) (gCons (gC (.ty "str")) gNil))) (gCons (gVar 0) gNil))))
  gNext)
  (gRet (gV (gC (.str "another")))))))
noncomputable def f_law_plain (K : PySem.W.Frag) (ev : Ev) : Nat → Sl → R Vl
  | 0 => fun _ => .stuck
  | k + 1 => fnSem 1 1 (g_law_plain K ev (f_law_plain K ev k))
theorem b_law_plain {P : Program} {w : World} {K : PySem.W.Frag} {mg : Str → Option Value} {base : Heap} {ev : Ev} {self : Sl → R Vl} {j : Nat} (T : Txt K mg) (C_law_plain : Cal P w K mg base j "_law_plain" 1 self) {f : Addr} (cdv : Value) (A : Around) (outer : List Env) (s : Shared) (H : Hp) (E : XK) (hr : Room j (A.deeper (envOfC "_law_plain" (defScope s_law_plain) s.heap.objs.size f cdv))) :
    VSs (cxOf (L2.CX P w) P w K mg base N_law_plain "_law_plain" (defScope s_law_plain) f cdv A outer s H E) (fun cls d _ H => E cls d H) (defBody s_law_plain) (g_law_plain K ev self) := by
  have hu : (cxOf (L2.CX P w) P w K mg base N_law_plain "_law_plain" (defScope s_law_plain) f cdv A outer s H E).A.units + 64 < cLine := by
    have := hr.un
    show (A.deeper (envOfC "_law_plain" (defScope s_law_plain) s.heap.objs.size f cdv)).units + 64 < cLine
    omega
  unfold g_law_plain
  exact (vss_cons (vs_if (vt_tru (VD.v (vd_callB (callR_or call_isi call_isiT) cd_isi (va_cons (vd_var 0) (va_cons (vd_tup (va_cons (vd_type (hm := T.z_tuple) (hv := by decide +kernel)) (va_cons (vd_type (hm := T.z_list) (hv := by decide +kernel)) va_nil))) va_nil)) (hm := T.z_isinstance) (hv := by decide +kernel))))
  (vss_one (vs_ret (ve_op2 op_cat opn_cat (ve_lst (va_cons (vd_callB (callR_or call_isi call_isiT) cd_isi (va_cons (vd_var 0) (va_cons (vd_type (hm := T.z_list) (hv := by decide +kernel)) va_nil)) (hm := T.z_isinstance) (hv := by decide +kernel)) va_nil)) (ve_lc (own := [(("item" : Str), 1)]) (pu := true) rfl sc_law_plain.nd (vi_seq true (VD.v (vd_var 0))) (blkOk_by (by rfl)) (fun _ _ _ _ _ => (vg_name 1 sc_law_plain.nd)) (fun _ _ _ _ _ => vts_nil) (fun _ _ _ _ _ => (VE.d (ve_callP C_law_plain takes0 hr (by omega) (var_v (vd_var 1) var_nil) (arV_len arN_len)))) (by rfl) rfl (by decide)))))
  vss_nil)
  (vss_cons (vs_if (VW.vt (vw_or (vt_cmpV op_isN opv_isN (nomark _) (VD.v (vd_var 0)) (VD.v vd_non)) (vw_or1 (vt_tru (VD.v (vd_callB (callR_or call_isi call_isiT) cd_isi (va_cons (vd_var 0) (va_cons (vd_type (hm := T.z_bool) (hv := by decide +kernel)) va_nil)) (hm := T.z_isinstance) (hv := by decide +kernel)))))))
  (vss_one (vs_ret (ve_ix (ve_lst (va_cons vd_str (va_cons vd_str (va_cons vd_str va_nil)))) (vd_op op_add opd_I0 (vd_callTy call_int1 cd_int (va_cons (vd_cmpV op_notN opv_notN (nomark _) (VD.v (vd_var 0)) (VD.v vd_non)) va_nil) (hm := T.z_int) (hv := by decide +kernel)) (vd_callTy call_int1 cd_int (va_cons (vd_cmp op_isBl opd_isBl (nomark _) (vd_var 0) vd_bl) va_nil) (hm := T.z_int) (hv := by decide +kernel))))))
  vss_nil)
  (vss_cons (vs_if (vt_tru (VD.v (vd_callB (callR_or call_isi call_isiT) cd_isi (va_cons (vd_var 0) (va_cons (vd_tup (va_cons (vd_type (hm := T.z_int) (hv := by decide +kernel)) (va_cons (vd_type (hm := T.z_str) (hv := by decide +kernel)) va_nil))) va_nil)) (hm := T.z_isinstance) (hv := by decide +kernel))))
  (vss_one (vs_ret (ve_lst (va_cons (vd_callB (callR_or call_isi call_isiT) cd_isi (va_cons (vd_var 0) (va_cons (vd_type (hm := T.z_str) (hv := by decide +kernel)) va_nil)) (hm := T.z_isinstance) (hv := by decide +kernel)) (va_cons (vd_var 0) va_nil)))))
  vss_nil)
  (vss_one (vs_ret (VD.v vd_str))))))
abbrev s_law_shells : Stmt := top 13
abbrev N_law_shells : List Str := [("sets" : Str), ("at" : Str), ("place" : Str), ("common" : Str), ("good" : Str), ("earlier" : Str), ("side" : Str), ("item" : Str)]
abbrev P_law_shells : List Str := [("sets" : Str)]
theorem sc_law_shells : FnScope N_law_shells P_law_shells (defScope s_law_shells) := ⟨rfl, rfl, rfl, by decide +kernel, rfl, by decide +kernel, by decide +kernel⟩
noncomputable def g_law_shells (K : PySem.W.Frag) (ev : Ev) : Sl → R Out :=
  (gThen (gFor (gIt dRange1 (gCons (gApp1 dLen (gV (gVar 0))) gNil)) (gaName 1)
  (gFor (gIt dRange1 (gCons (gVar 1) gNil)) (gaName 2)
  (gThen (gSet 3 (gV (gD (gLc true [(7 : Nat)] (gSeq true (gIxN 0 (gVar 1))) (gaName 7) (gBool (gOpV true (dIn false) (gV (gVar 7)) (gIxN 0 (gVar 2)))) (gVar 7)))))
  (gThen (gIfS (gBool (gOpV true (dEq false) (gV (gApp1 dLen (gV (gVar 3)))) (gV (gApp1 dLen (gIxN 0 (gVar 1))))))
  (gRet (gV (gC (.bl false))))
  gNext)
  (gThen (gSet 4 (gV (gC (.bl false))))
  (gThen (gFor (gSeq false (gSl true (gV (gVar 0)) none (some (gVar 1)))) (gaName 5)
  (gThen (gSet 6 (gV (gD (gLc true [(7 : Nat)] (gSeq true (gIxN 0 (gVar 1))) (gaName 7) (gBool (gOpV true (dIn false) (gV (gVar 7)) (gV (gVar 5)))) (gVar 7)))))
  (gSet 4 (gV (gOrV (gVar 4) (gAndV (gOpV true (dEq false) (gV (gApp1 dLen (gV (gVar 6)))) (gV (gOp dSub (gApp1 dLen (gIxN 0 (gVar 1))) (gC (.int (1)))))) (gD (gCallP (f_law_within K ev) (gArV (gVar 3) (gArV (gVar 6) gArN))))))))))
  (gIfS (gNot (gTru (gV (gVar 4))))
  (gRet (gV (gC (.bl false))))
  gNext)))))))
  (gRet (gV (gC (.bl true)))))
noncomputable def f_law_shells (K : PySem.W.Frag) (ev : Ev) : Sl → R Vl := fnSem 1 7 (g_law_shells K ev)
theorem b_law_shells {P : Program} {w : World} {K : PySem.W.Frag} {mg : Str → Option Value} {base : Heap} {ev : Ev} (T : Txt K mg) (C_law_within : Cal P w K mg base 2 "_law_within" 2 (f_law_within K ev)) {f : Addr} (cdv : Value) (A : Around) (outer : List Env) (s : Shared) (H : Hp) (E : XK) (hr : Room 3 (A.deeper (envOfC "_law_shells" (defScope s_law_shells) s.heap.objs.size f cdv))) :
    VSs (cxOf (L2.CX P w) P w K mg base N_law_shells "_law_shells" (defScope s_law_shells) f cdv A outer s H E) (fun cls d _ H => E cls d H) (defBody s_law_shells) (g_law_shells K ev) := by
  have hu : (cxOf (L2.CX P w) P w K mg base N_law_shells "_law_shells" (defScope s_law_shells) f cdv A outer s H E).A.units + 64 < cLine := by
    have := hr.un
    show (A.deeper (envOfC "_law_shells" (defScope s_law_shells) s.heap.objs.size f cdv)).units + 64 < cLine
    omega
  unfold g_law_shells
  exact (vss_cons (vs_for vpasses rfl (vi_range1 false (va_cons (vd_callB1 call_len cv_len (VD.v (vd_var 0)) (hm := T.z_len) (hv := by decide +kernel)) va_nil) T.z_range) (vg_name 1 sc_law_shells.nd)
  (vss_one (vs_for vpasses rfl (vi_range1 false (va_cons (vd_var 1) va_nil) T.z_range) (vg_name 2 sc_law_shells.nd)
  (vss_cons (vs_setLc true 3 (own := [(("item" : Str), 7)]) (pu := true) rfl sc_law_shells.nd (vi_seq true (ve_ixN 0 (vd_var 1))) (blkOk_by (by rfl)) (fun _ _ _ _ _ => (vg_name 7 sc_law_shells.nd)) (fun _ _ _ _ _ => (vts_one (vt_cmpV (op_inP hu) opv_in (by rfl) (VD.v (vd_var 7)) (ve_ixN 0 (vd_var 2))))) (fun _ _ _ _ _ => (vd_var 7)) (by rfl) rfl (by decide))
  (vss_cons (vs_if (vt_cmpV (op_eqP hu) opv_eq (nomark _) (VD.v (vd_callB1 call_len cv_len (VD.v (vd_var 3)) (hm := T.z_len) (hv := by decide +kernel))) (VD.v (vd_callB1 call_len cv_len (ve_ixN 0 (vd_var 1)) (hm := T.z_len) (hv := by decide +kernel))))
  (vss_one (vs_ret (VD.v vd_bl)))
  vss_nil)
  (vss_cons (vs_set 4 (VD.v vd_bl) sc_law_shells.nd)
  (vss_cons (vs_for vpasses rfl (vi_seq false (ve_sl (q := true) (VD.v (vd_var 0)) True.intro (vd_var 1))) (vg_name 5 sc_law_shells.nd)
  (vss_cons (vs_setLc true 6 (own := [(("item" : Str), 7)]) (pu := true) rfl sc_law_shells.nd (vi_seq true (ve_ixN 0 (vd_var 1))) (blkOk_by (by rfl)) (fun _ _ _ _ _ => (vg_name 7 sc_law_shells.nd)) (fun _ _ _ _ _ => (vts_one (vt_cmpV (op_inP hu) opv_in (by rfl) (VD.v (vd_var 7)) (VD.v (vd_var 5))))) (fun _ _ _ _ _ => (vd_var 7)) (by rfl) rfl (by decide))
  (vss_one (vs_set 4 (VD.v (vd_or (vd_var 4) (vd_one (vd_and (vd_cmpV (op_eqP hu) opv_eq (nomark _) (VD.v (vd_callB1 call_len cv_len (VD.v (vd_var 6)) (hm := T.z_len) (hv := by decide +kernel))) (VD.v (vd_op op_sub opd_I0 (vd_callB1 call_len cv_len (ve_ixN 0 (vd_var 1)) (hm := T.z_len) (hv := by decide +kernel)) vd_int))) (vd_one (VE.d (ve_callP C_law_within vtakes hr (by decide) (var_v (vd_var 3) (var_v (vd_var 6) var_nil)) (arV_len (arV_len arN_len))))))))) sc_law_shells.nd))))
  (vss_one (vs_if (vt_not (vt_tru (VD.v (vd_var 4))))
  (vss_one (vs_ret (VD.v vd_bl)))
  vss_nil)))))))))
  (vss_one (vs_ret (VD.v vd_bl))))
abbrev s_shares_side : Stmt := top 4
abbrev N_shares_side : List Str := [("one" : Str), ("other" : Str), ("item" : Str)]
abbrev P_shares_side : List Str := [("one" : Str), ("other" : Str)]
theorem sc_shares_side : FnScope N_shares_side P_shares_side (defScope s_shares_side) := ⟨rfl, rfl, rfl, by decide +kernel, rfl, by decide +kernel, by decide +kernel⟩
noncomputable def g_shares_side (K : PySem.W.Frag) (ev : Ev) : Sl → R Out :=
  (gRet (gV (gOpV true (dEq false) (gV (gApp1 dLen (gLc true [(2 : Nat)] (gSeq true (gV (gVar 0))) (gaName 2) (gBool (gOpV true (dIn false) (gV (gVar 2)) (gV (gVar 1)))) (gVar 2)))) (gV (gOp dSub (gApp1 dLen (gV (gVar 0))) (gC (.int (1))))))))
noncomputable def f_shares_side (K : PySem.W.Frag) (ev : Ev) : Sl → R Vl := fnSem 2 1 (g_shares_side K ev)
theorem b_shares_side {P : Program} {w : World} {K : PySem.W.Frag} {mg : Str → Option Value} {base : Heap} {ev : Ev} (T : Txt K mg) {f : Addr} (cdv : Value) (A : Around) (outer : List Env) (s : Shared) (H : Hp) (E : XK) (hr : Room 1 (A.deeper (envOfC "shares_side" (defScope s_shares_side) s.heap.objs.size f cdv))) :
    VSs (cxOf (L2.CX P w) P w K mg base N_shares_side "shares_side" (defScope s_shares_side) f cdv A outer s H E) (fun cls d _ H => E cls d H) (defBody s_shares_side) (g_shares_side K ev) := by
  have hu : (cxOf (L2.CX P w) P w K mg base N_shares_side "shares_side" (defScope s_shares_side) f cdv A outer s H E).A.units + 64 < cLine := by
    have := hr.un
    show (A.deeper (envOfC "shares_side" (defScope s_shares_side) s.heap.objs.size f cdv)).units + 64 < cLine
    omega
  unfold g_shares_side
  exact (vss_one (vs_ret (VD.v (vd_cmpV (op_eqP hu) opv_eq (nomark _) (VD.v (vd_callB1 call_len cv_len (ve_lc (own := [(("item" : Str), 2)]) (pu := true) rfl sc_shares_side.nd (vi_seq true (VD.v (vd_var 0))) (blkOk_by (by rfl)) (fun _ _ _ _ _ => (vg_name 2 sc_shares_side.nd)) (fun _ _ _ _ _ => (vts_one (vt_cmpV (op_inP hu) opv_in (by rfl) (VD.v (vd_var 2)) (VD.v (vd_var 1))))) (fun _ _ _ _ _ => (vd_var 2)) (by rfl) rfl (by decide)) (hm := T.z_len) (hv := by decide +kernel))) (VD.v (vd_op op_sub opd_I0 (vd_callB1 call_len cv_len (VD.v (vd_var 0)) (hm := T.z_len) (hv := by decide +kernel)) vd_int))))))
abbrev s_has_sides : Stmt := top 5
abbrev N_has_sides : List Str := [("sets" : Str), ("at" : Str), ("one" : Str), ("sides" : Str), ("other" : Str), ("meet" : Str), ("item" : Str), ("side" : Str)]
abbrev P_has_sides : List Str := [("sets" : Str), ("at" : Str)]
theorem sc_has_sides : FnScope N_has_sides P_has_sides (defScope s_has_sides) := ⟨rfl, rfl, rfl, by decide +kernel, rfl, by decide +kernel, by decide +kernel⟩
noncomputable def g_has_sides (K : PySem.W.Frag) (ev : Ev) : Sl → R Out :=
  (gThen (gSet 2 (gV (gD (gIxN 0 (gVar 1)))))
  (gThen (gSet 3 (gV (gD (gLc true [(4 : Nat)] (gSeq true (gSl true (gV (gVar 0)) none (some (gVar 1)))) (gaName 4) (gTru (gCallP (f_shares_side K ev) (gArV (gVar 2) (gArV (gVar 4) gArN)))) (gD (gLc true [(6 : Nat)] (gSeq true (gV (gVar 2))) (gaName 6) (gBool (gOpV true (dIn false) (gV (gVar 6)) (gV (gVar 4)))) (gVar 6)))))))
  (gThen (gFor (gSeq false (gSl true (gV (gVar 0)) none (some (gVar 1)))) (gaName 4)
  (gThen (gSet 5 (gV (gD (gLc true [(6 : Nat)] (gSeq true (gV (gVar 2))) (gaName 6) (gBool (gOpV true (dIn false) (gV (gVar 6)) (gV (gVar 4)))) (gVar 6)))))
  (gIfS (gNot (gTru (gLc true [(7 : Nat)] (gSeq true (gV (gVar 3))) (gaName 7) (gNot (gTru (gLc true [(6 : Nat)] (gSeq true (gV (gVar 5))) (gaName 6) (gBool (gOpV true (dIn true) (gV (gVar 6)) (gV (gVar 7)))) (gVar 6)))) (gVar 7))))
  (gRet (gV (gC (.bl false))))
  gNext)))
  (gRet (gV (gC (.bl true)))))))
noncomputable def f_has_sides (K : PySem.W.Frag) (ev : Ev) : Sl → R Vl := fnSem 2 6 (g_has_sides K ev)
theorem b_has_sides {P : Program} {w : World} {K : PySem.W.Frag} {mg : Str → Option Value} {base : Heap} {ev : Ev} (T : Txt K mg) (C_shares_side : Cal P w K mg base 2 "shares_side" 2 (f_shares_side K ev)) {f : Addr} (cdv : Value) (A : Around) (outer : List Env) (s : Shared) (H : Hp) (E : XK) (hr : Room 3 (A.deeper (envOfC "has_sides" (defScope s_has_sides) s.heap.objs.size f cdv))) :
    VSs (cxOf (L2.CX P w) P w K mg base N_has_sides "has_sides" (defScope s_has_sides) f cdv A outer s H E) (fun cls d _ H => E cls d H) (defBody s_has_sides) (g_has_sides K ev) := by
  have hu : (cxOf (L2.CX P w) P w K mg base N_has_sides "has_sides" (defScope s_has_sides) f cdv A outer s H E).A.units + 64 < cLine := by
    have := hr.un
    show (A.deeper (envOfC "has_sides" (defScope s_has_sides) s.heap.objs.size f cdv)).units + 64 < cLine
    omega
  unfold g_has_sides
  exact (vss_cons (vs_set 2 (VD.v (VE.d (ve_ixN 0 (vd_var 1)))) sc_has_sides.nd)
  (vss_cons (vs_setLc true 3 (own := [(("other" : Str), 4)]) (pu := true) rfl sc_has_sides.nd (vi_seq true (ve_sl (q := true) (VD.v (vd_var 0)) True.intro (vd_var 1))) (blkOk_by (by rfl)) (fun _ _ _ _ _ => (vg_name 4 sc_has_sides.nd)) (fun _ _ _ _ _ => (vts_one (vt_tru (ve_callP C_shares_side takes0 hr (by decide) (var_v (vd_var 2) (var_v (vd_var 4) var_nil)) (arV_len (arV_len arN_len)))))) (fun _ _ _ _ _ => (VE.d (ve_lc (own := [(("item" : Str), 6)]) (pu := true) rfl sc_has_sides.nd (vi_seq true (VD.v (vd_var 2))) (blkOk_by (by rfl)) (fun _ _ _ _ _ => (vg_name 6 sc_has_sides.nd)) (fun _ _ _ _ _ => (vts_one (vt_cmpV (op_inP hu) opv_in (by rfl) (VD.v (vd_var 6)) (VD.v (vd_var 4))))) (fun _ _ _ _ _ => (vd_var 6)) (by rfl) rfl (by decide)))) (by rfl) rfl (by decide))
  (vss_cons (vs_for vpasses rfl (vi_seq false (ve_sl (q := true) (VD.v (vd_var 0)) True.intro (vd_var 1))) (vg_name 4 sc_has_sides.nd)
  (vss_cons (vs_set 5 (VD.v (VE.d (ve_lc (own := [(("item" : Str), 6)]) (pu := true) rfl sc_has_sides.nd (vi_seq true (VD.v (vd_var 2))) (blkOk_by (by rfl)) (fun _ _ _ _ _ => (vg_name 6 sc_has_sides.nd)) (fun _ _ _ _ _ => (vts_one (vt_cmpV (op_inP hu) opv_in (by rfl) (VD.v (vd_var 6)) (VD.v (vd_var 4))))) (fun _ _ _ _ _ => (vd_var 6)) (by rfl) rfl (by decide)))) sc_has_sides.nd)
  (vss_one (vs_if (vt_not (vt_tru (ve_lc (own := [(("side" : Str), 7)]) (pu := true) rfl sc_has_sides.nd (vi_seq true (VD.v (vd_var 3))) (blkOk_by (by rfl)) (fun _ _ _ _ _ => (vg_name 7 sc_has_sides.nd)) (fun _ _ _ _ _ => (vts_one (vt_not (vt_tru (ve_lc (own := [(("item" : Str), 6)]) (pu := true) rfl sc_has_sides.nd (vi_seq true (VD.v (vd_var 5))) (blkOk_by (by rfl)) (fun _ _ _ _ _ => (vg_name 6 sc_has_sides.nd)) (fun _ _ _ _ _ => (vts_one (vt_cmpV (op_notInP hu) opv_in (by rfl) (VD.v (vd_var 6)) (VD.v (vd_var 7))))) (fun _ _ _ _ _ => (vd_var 6)) (by rfl) rfl (by decide)))))) (fun _ _ _ _ _ => (vd_var 7)) (by rfl) rfl (by decide))))
  (vss_one (vs_ret (VD.v vd_bl)))
  vss_nil))))
  (vss_one (vs_ret (VD.v vd_bl))))))
abbrev s_is_shelling : Stmt := top 6
abbrev N_is_shelling : List Str := [("sets" : Str), ("at" : Str), ("one" : Str)]
abbrev P_is_shelling : List Str := [("sets" : Str)]
theorem sc_is_shelling : FnScope N_is_shelling P_is_shelling (defScope s_is_shelling) := ⟨rfl, rfl, rfl, by decide +kernel, rfl, by decide +kernel, by decide +kernel⟩
noncomputable def g_is_shelling (K : PySem.W.Frag) (ev : Ev) : Sl → R Out :=
  (gThen (gIfS (gBool (gOp dLt (gLenSet (gLc true [(2 : Nat)] (gSeq true (gV (gVar 0))) (gaName 2) gYes (gTupOf (gNew1 dSorted (gV (gVar 2)))))) (gApp1 dLen (gV (gVar 0)))))
  (gRet (gV (gC (.bl false))))
  gNext)
  (gThen (gFor (gIt dRange1 (gCons (gApp1 dLen (gV (gVar 0))) gNil)) (gaName 1)
  (gIfS (gNot (gTru (gCallP (f_has_sides K ev) (gArV (gVar 0) (gArV (gVar 1) gArN)))))
  (gRet (gV (gC (.bl false))))
  gNext))
  (gRet (gV (gC (.bl true))))))
noncomputable def f_is_shelling (K : PySem.W.Frag) (ev : Ev) : Sl → R Vl := fnSem 1 2 (g_is_shelling K ev)
theorem b_is_shelling {P : Program} {w : World} {K : PySem.W.Frag} {mg : Str → Option Value} {base : Heap} {ev : Ev} (T : Txt K mg) (C_has_sides : Cal P w K mg base 4 "has_sides" 2 (f_has_sides K ev)) {f : Addr} (cdv : Value) (A : Around) (outer : List Env) (s : Shared) (H : Hp) (E : XK) (hr : Room 5 (A.deeper (envOfC "is_shelling" (defScope s_is_shelling) s.heap.objs.size f cdv))) :
    VSs (cxOf (L2.CX P w) P w K mg base N_is_shelling "is_shelling" (defScope s_is_shelling) f cdv A outer s H E) (fun cls d _ H => E cls d H) (defBody s_is_shelling) (g_is_shelling K ev) := by
  have hu : (cxOf (L2.CX P w) P w K mg base N_is_shelling "is_shelling" (defScope s_is_shelling) f cdv A outer s H E).A.units + 64 < cLine := by
    have := hr.un
    show (A.deeper (envOfC "is_shelling" (defScope s_is_shelling) s.heap.objs.size f cdv)).units + 64 < cLine
    omega
  unfold g_is_shelling
  exact (vss_cons (vs_if (vt_cmp op_lt opd_B (nomark _) (vd_lenSet (ve_lc (own := [(("one" : Str), 2)]) (pu := true) rfl sc_is_shelling.nd (vi_seq true (VD.v (vd_var 0))) (blkOk_by (by rfl)) (fun _ _ _ _ _ => (vg_name 2 sc_is_shelling.nd)) (fun _ _ _ _ _ => vts_nil) (fun _ _ _ _ _ => (vd_tupOf (ve_newB1 (cr_sortedE hu) cn_sorted (VD.v (vd_var 2)) (hm := T.z_sorted) (hv := by decide +kernel)) (hm := T.z_tuple))) (by rfl) rfl (by decide)) rfl hu (hm := T.z_len) (hm2 := T.z_set)) (vd_callB1 call_len cv_len (VD.v (vd_var 0)) (hm := T.z_len) (hv := by decide +kernel)))
  (vss_one (vs_ret (VD.v vd_bl)))
  vss_nil)
  (vss_cons (vs_for vpasses rfl (vi_range1 false (va_cons (vd_callB1 call_len cv_len (VD.v (vd_var 0)) (hm := T.z_len) (hv := by decide +kernel)) va_nil) T.z_range) (vg_name 1 sc_is_shelling.nd)
  (vss_one (vs_if (vt_not (vt_tru (ve_callP C_has_sides vtakes hr (by decide) (var_v (vd_var 0) (var_v (vd_var 1) var_nil)) (arV_len (arV_len arN_len)))))
  (vss_one (vs_ret (VD.v vd_bl)))
  vss_nil)))
  (vss_one (vs_ret (VD.v vd_bl)))))
abbrev s_fresh_parts : Stmt := top 7
abbrev N_fresh_parts : List Str := [("sets" : Str), ("found" : Str), ("at" : Str), ("one" : Str), ("fresh" : Str), ("item" : Str), ("rest" : Str), ("other" : Str), ("earlier" : Str)]
abbrev P_fresh_parts : List Str := [("sets" : Str)]
theorem sc_fresh_parts : FnScope N_fresh_parts P_fresh_parts (defScope s_fresh_parts) := ⟨rfl, rfl, rfl, by decide +kernel, rfl, by decide +kernel, by decide +kernel⟩
noncomputable def g_fresh_parts (K : PySem.W.Frag) (ev : Ev) : Sl → R Out :=
  (gThen (gIfS (gNot (gTru (gCallP (f_is_shelling K ev) (gArV (gVar 0) gArN))))
  (gRaise ev.cInvalidOrder (gC (.str "shelling")))
  gNext)
  (gThen (gSet 1 (gLst gNil))
  (gThen (gFor (gEnum false (gV (gVar 0))) (gaTup 2 (gaCons (gaName 2) (gaCons (gaName 3) gaNil)))
  (gThen (gSet 4 (gLst gNil))
  (gThen (gFor (gSeq false (gV (gVar 3))) (gaName 5)
  (gThen (gSet 6 (gV (gD (gLc true [(7 : Nat)] (gSeq true (gV (gVar 3))) (gaName 7) (gBool (gOpV true (dEq true) (gV (gVar 7)) (gV (gVar 5)))) (gVar 7)))))
  (gIfS (gTru (gLc true [(8 : Nat)] (gSeq true (gSl true (gV (gVar 0)) none (some (gVar 2)))) (gaName 8) (gNot (gTru (gLc true [(7 : Nat)] (gSeq true (gV (gVar 6))) (gaName 7) (gBool (gOpV true (dIn true) (gV (gVar 7)) (gV (gVar 8)))) (gVar 7)))) (gVar 8)))
  (gDrop (gV (gApd 4 (gV (gVar 5)))))
  gNext)))
  (gDrop (gV (gApd 1 (gV (gTupOf (gBor 4)))))))))
  (gRet (gMov 1)))))
noncomputable def f_fresh_parts (K : PySem.W.Frag) (ev : Ev) : Sl → R Vl := fnSem 1 8 (g_fresh_parts K ev)
theorem b_fresh_parts {P : Program} {w : World} {K : PySem.W.Frag} {mg : Str → Option Value} {base : Heap} {ev : Ev} (T : Txt K mg) (C_is_shelling : Cal P w K mg base 6 "is_shelling" 1 (f_is_shelling K ev)) {B_InvalidOrder fI_InvalidOrder : Addr} {fd_InvalidOrder : FuncData} (E_InvalidOrder : ErrTxt K mg "InvalidOrder" ev.cInvalidOrder B_InvalidOrder fI_InvalidOrder) (FI_InvalidOrder : FnOk P w K mg base (L2.CX P w) 1 fI_InvalidOrder fd_InvalidOrder nmSW (spInit ev.cInvalidOrder)) (bI_InvalidOrder : Binds K fd_InvalidOrder nmSW []) {f : Addr} (cdv : Value) (A : Around) (outer : List Env) (s : Shared) (H : Hp) (E : XK) (hr : Room 7 (A.deeper (envOfC "fresh_parts" (defScope s_fresh_parts) s.heap.objs.size f cdv))) :
    VSs (cxOf (L2.CX P w) P w K mg base N_fresh_parts "fresh_parts" (defScope s_fresh_parts) f cdv A outer s H E) (fun cls d _ H => E cls d H) (defBody s_fresh_parts) (g_fresh_parts K ev) := by
  have hu : (cxOf (L2.CX P w) P w K mg base N_fresh_parts "fresh_parts" (defScope s_fresh_parts) f cdv A outer s H E).A.units + 64 < cLine := by
    have := hr.un
    show (A.deeper (envOfC "fresh_parts" (defScope s_fresh_parts) s.heap.objs.size f cdv)).units + 64 < cLine
    omega
  unfold g_fresh_parts
  exact (vss_cons (vs_if (vt_not (vt_tru (ve_callP C_is_shelling vtakes hr (by decide) (var_v (vd_var 0) var_nil) (arV_len arN_len))))
  (vss_one (vs_raise vd_str E_InvalidOrder FI_InvalidOrder (hr.mono (by decide)) bI_InvalidOrder rfl vtakes))
  vss_nil)
  (vss_cons (vs_set 1 (ve_lst va_nil) sc_fresh_parts.nd)
  (vss_cons (vs_for vpasses rfl (vi_enum false (VD.v (vd_var 0)) T.z_enumerate) (vg_tup rfl (vgs_cons (vg_name 2 sc_fresh_parts.nd) (vgs_cons (vg_name 3 sc_fresh_parts.nd) vgs_nil)))
  (vss_cons (vs_set 4 (ve_lst va_nil) sc_fresh_parts.nd)
  (vss_cons (vs_for vpasses rfl (vi_seq false (VD.v (vd_var 3))) (vg_name 5 sc_fresh_parts.nd)
  (vss_cons (vs_set 6 (VD.v (VE.d (ve_lc (own := [(("other" : Str), 7)]) (pu := true) rfl sc_fresh_parts.nd (vi_seq true (VD.v (vd_var 3))) (blkOk_by (by rfl)) (fun _ _ _ _ _ => (vg_name 7 sc_fresh_parts.nd)) (fun _ _ _ _ _ => (vts_one (vt_cmpV (op_neP hu) opv_eq (nomark _) (VD.v (vd_var 7)) (VD.v (vd_var 5))))) (fun _ _ _ _ _ => (vd_var 7)) (by rfl) rfl (by decide)))) sc_fresh_parts.nd)
  (vss_one (vs_if (vt_tru (ve_lc (own := [(("earlier" : Str), 8)]) (pu := true) rfl sc_fresh_parts.nd (vi_seq true (ve_sl (q := true) (VD.v (vd_var 0)) True.intro (vd_var 2))) (blkOk_by (by rfl)) (fun _ _ _ _ _ => (vg_name 8 sc_fresh_parts.nd)) (fun _ _ _ _ _ => (vts_one (vt_not (vt_tru (ve_lc (own := [(("other" : Str), 7)]) (pu := true) rfl sc_fresh_parts.nd (vi_seq true (VD.v (vd_var 6))) (blkOk_by (by rfl)) (fun _ _ _ _ _ => (vg_name 7 sc_fresh_parts.nd)) (fun _ _ _ _ _ => (vts_one (vt_cmpV (op_notInP hu) opv_in (by rfl) (VD.v (vd_var 7)) (VD.v (vd_var 8))))) (fun _ _ _ _ _ => (vd_var 7)) (by rfl) rfl (by decide)))))) (fun _ _ _ _ _ => (vd_var 8)) (by rfl) rfl (by decide)))
  (vss_one (vs_expr (VD.v (vd_append 4 (VD.v (vd_var 5))))))
  vss_nil))))
  (vss_one (vs_expr (VD.v (vd_append 1 (VD.v (vd_tupOf (ve_bor 4) (hm := T.z_tuple))))))))))
  (vss_one (vs_ret (ve_mov 1))))))
abbrev s_law : Stmt := top 17
abbrev N_law : List Str := [("script" : Str), ("deck" : Str), ("turn" : Str), ("sets" : Str), ("passed" : Str), ("due" : Str), ("fresh" : Str), ("row" : Str), ("told" : Str), ("error" : Str), ("homes" : Str), ("at" : Str)]
abbrev P_law : List Str := [("script" : Str)]
theorem sc_law : FnScope N_law P_law (defScope s_law) := ⟨rfl, rfl, rfl, by decide +kernel, rfl, by decide +kernel, by decide +kernel⟩
noncomputable def g_law (K : PySem.W.Frag) (ev : Ev) : Sl → R Out :=
  (gThen (gSet 1 (gCallP (f_law_deck K ev) (gArV (gVar 0) (gArV (gC (.int (60))) (gArV (gC (.int (14))) gArN)))))
  (gThen (gFor (gIt dRange1 (gCons (gC (.int (4))) gNil)) (gaName 2)
  (gThen (gSet 3 (gV (gD (gCall (f_law_drawn K ev) (gArIo 1 gArN)))))
  (gThen (gSet 4 (gV (gD (gNew1 dList (gV (gVar 3))))))
  (gThen (gSet 5 (gV (gD (gCallP (f_law_shells K ev) (gArV (gVar 3) gArN)))))
  (gThen (gIfS (gBool (gOpV true (dEq true) (gCallP (f_law_plain K ev 6) (gArV (gD (gCallP (f_is_shelling K ev) (gArV (gVar 4) gArN))) gArN)) (gCallP (f_law_plain K ev 6) (gArV (gVar 5) gArN))))
  (gRet (gV (gC (.bl false))))
  gNext)
  (gThen (gTry ev.cInvalidOrder [] 9 (gSet 8 (gV (gD (gCallP (f_fresh_parts K ev) (gArV (gVar 4) gArN)))))
  (fun a dd => (gThen (gIfS (gOr (gTru (gV (gVar 5))) (gBool (gOpV true (dEq true) (gV (gExc a dd 9)) (gV (gC (.str "shelling"))))))
  (gRet (gV (gC (.bl false))))
  gNext)
  gCont)))
  (gThen (gSet 6 (gV (gD (gCallP (f_law_fresh K ev) (gArV (gVar 3) gArN)))))
  (gThen (gIfS (gOr (gNot (gTru (gV (gVar 5)))) (gOr (gBool (gOpV true (dEq true) (gCallP (f_law_plain K ev 6) (gArV (gVar 8) gArN)) (gCallP (f_law_plain K ev 6) (gArV (gVar 6) gArN)))) (gBool (gOpV true (dEq true) (gV (gVar 4)) (gV (gVar 3))))))
  (gRet (gV (gC (.bl false))))
  gNext)
  (gFor (gSeq false (gCallP (f_law_all_within K ev) (gArV (gVar 3) gArN))) (gaName 7)
  (gThen (gSet 10 (gV (gD (gLc true [(11 : Nat)] (gIt dRange1 (gCons (gApp1 dLen (gV (gVar 3))) gNil)) (gaName 11) (gAnd (gTru (gCallP (f_law_within K ev) (gArV (gD (gIxN 6 (gVar 11))) (gArV (gVar 7) gArN)))) (gTru (gCallP (f_law_within K ev) (gArV (gVar 7) (gArV (gD (gIxN 3 (gVar 11))) gArN))))) (gVar 11)))))
  (gIfS (gBool (gOpV true (dEq true) (gV (gApp1 dLen (gV (gVar 10)))) (gV (gC (.int (1))))))
  (gRet (gV (gC (.bl false))))
  gNext)))))))))))
  (gRet (gV (gAndV (gOp (dIsBl false) (gD (gCallP (f_is_shelling K ev) (gArV (gD (gLst (gCons (gTup (gCons (gC (.int (1))) (gCons (gC (.int (2))) gNil))) (gCons (gTup (gCons (gC (.int (2))) (gCons (gC (.int (1))) gNil))) gNil)))) gArN))) (gC (.bl false))) (gOp (dIsBl false) (gD (gCallP (f_is_shelling K ev) (gArV (gD (gLst (gCons (gTup (gCons (gC (.int (3))) gNil)) gNil))) gArN))) (gC (.bl true))))))))
theorem b_law {P : Program} {w : World} {K : PySem.W.Frag} {mg : Str → Option Value} {base : Heap} {ev : Ev} (T : Txt K mg) (C_law_all_within : Cal P w K mg base 2 "_law_all_within" 1 (f_law_all_within K ev)) (C_law_deck : Cal P w K mg base 2 "_law_deck" 3 (f_law_deck K ev)) (C_law_drawn : Cal P w K mg base 4 "_law_drawn" 1 (f_law_drawn K ev)) (C_law_fresh : Cal P w K mg base 4 "_law_fresh" 1 (f_law_fresh K ev)) (C_law_plain : Cal P w K mg base 6 "_law_plain" 1 (f_law_plain K ev 6)) (C_law_shells : Cal P w K mg base 4 "_law_shells" 1 (f_law_shells K ev)) (C_law_within : Cal P w K mg base 2 "_law_within" 2 (f_law_within K ev)) (C_fresh_parts : Cal P w K mg base 8 "fresh_parts" 1 (f_fresh_parts K ev)) (C_is_shelling : Cal P w K mg base 6 "is_shelling" 1 (f_is_shelling K ev)) {B_InvalidOrder fI_InvalidOrder : Addr} {fd_InvalidOrder : FuncData} (E_InvalidOrder : ErrTxt K mg "InvalidOrder" ev.cInvalidOrder B_InvalidOrder fI_InvalidOrder) (FI_InvalidOrder : FnOk P w K mg base (L2.CX P w) 1 fI_InvalidOrder fd_InvalidOrder nmSW (spInit ev.cInvalidOrder)) (bI_InvalidOrder : Binds K fd_InvalidOrder nmSW []) (te_InvalidOrder : PySem.W.exmOne K (.ref ev.cInvalidOrder) (.ref ev.cInvalidOrder) = some true) {f : Addr} (cdv : Value) (A : Around) (outer : List Env) (s : Shared) (H : Hp) (E : XK) (hr : Room 9 (A.deeper (envOfC "law" (defScope s_law) s.heap.objs.size f cdv))) :
    VSs (cxOf (L2.CX P w) P w K mg base N_law "law" (defScope s_law) f cdv A outer s H E) (fun cls d _ H => E cls d H) (defBody s_law) (g_law K ev) := by
  have hu : (cxOf (L2.CX P w) P w K mg base N_law "law" (defScope s_law) f cdv A outer s H E).A.units + 64 < cLine := by
    have := hr.un
    show (A.deeper (envOfC "law" (defScope s_law) s.heap.objs.size f cdv)).units + 64 < cLine
    omega
  unfold g_law
  exact (vss_cons (vs_set 1 (ve_callP C_law_deck vtakes hr (by decide) (var_v (vd_var 0) (var_v vd_int (var_v vd_int var_nil))) (arV_len (arV_len (arV_len arN_len)))) sc_law.nd)
  (vss_cons (vs_for vpasses rfl (vi_range1 false (va_cons vd_int va_nil) T.z_range) (vg_name 2 sc_law.nd)
  (vss_cons (vs_set 3 (VD.v (VE.d (ve_callC C_law_drawn vtakes hr (by decide) (var_io 1 var_nil) (arIo_len arN_len)))) sc_law.nd)
  (vss_cons (vs_set 4 (VD.v (VE.d (ve_newTy1 call_list_of cn_list (VD.v (vd_var 3)) (hm := T.z_list) (hv := by decide +kernel)))) sc_law.nd)
  (vss_cons (vs_set 5 (VD.v (VE.d (ve_callP C_law_shells vtakes hr (by decide) (var_v (vd_var 3) var_nil) (arV_len arN_len)))) sc_law.nd)
  (vss_cons (vs_if (vt_cmpV (op_neP hu) opv_eq (nomark _) (ve_callP C_law_plain vtakes hr (by decide) (var_v (VE.d (ve_callP C_is_shelling vtakes hr (by decide) (var_v (vd_var 4) var_nil) (arV_len arN_len))) var_nil) (arV_len arN_len)) (ve_callP C_law_plain vtakes hr (by decide) (var_v (vd_var 5) var_nil) (arV_len arN_len)))
  (vss_one (vs_ret (VD.v vd_bl)))
  vss_nil)
  (vss_cons (vs_try 9 rfl rfl sc_law.nd rfl rfl (names_mk rfl (by decide) E_InvalidOrder.gC) vtakes te_InvalidOrder (by intro c h; simp at h)
  (fun W1 pn xe tk1 ps1 => (vss_one (vs_set 8 (VD.v (VE.d (ve_callP C_fresh_parts tk1 hr (by decide) (var_v (vd_var 4) var_nil) (arV_len arN_len)))) sc_law.nd)))
  (fun a dd oe pn hz hfv => (vss_cons (vs_if (VW.vt (vw_or (vt_tru (VD.v (vd_var 5))) (vw_or1 (vt_cmpV (op_neP hu) opv_eq (nomark _) (VD.v (vd_what 9 E_InvalidOrder hz hfv rfl)) (VD.v vd_str)))))
  (vss_one (vs_ret (VD.v vd_bl)))
  vss_nil)
  (vss_one vs_cont))))
  (vss_cons (vs_set 6 (VD.v (VE.d (ve_callP C_law_fresh vtakes hr (by decide) (var_v (vd_var 3) var_nil) (arV_len arN_len)))) sc_law.nd)
  (vss_cons (vs_if (VW.vt (vw_or (vt_not (vt_tru (VD.v (vd_var 5)))) (vw_or (vt_cmpV (op_neP hu) opv_eq (nomark _) (ve_callP C_law_plain vtakes hr (by decide) (var_v (vd_var 8) var_nil) (arV_len arN_len)) (ve_callP C_law_plain vtakes hr (by decide) (var_v (vd_var 6) var_nil) (arV_len arN_len))) (vw_or1 (vt_cmpV (op_neP hu) opv_eq (nomark _) (VD.v (vd_var 4)) (VD.v (vd_var 3)))))))
  (vss_one (vs_ret (VD.v vd_bl)))
  vss_nil)
  (vss_one (vs_for vpasses rfl (vi_seq false (ve_callP C_law_all_within vtakes hr (by decide) (var_v (vd_var 3) var_nil) (arV_len arN_len))) (vg_name 7 sc_law.nd)
  (vss_cons (vs_setLc true 10 (own := [(("at" : Str), 11)]) (pu := true) rfl sc_law.nd (vi_range1 true (va_cons (vd_callB1 call_len cv_len (VD.v (vd_var 3)) (hm := T.z_len) (hv := by decide +kernel)) va_nil) T.z_range) (blkOk_by (by rfl)) (fun _ _ _ _ _ => (vg_name 11 sc_law.nd)) (fun _ _ _ _ _ => (vts_one (VW.vt (vw_and (vt_tru (ve_callP C_law_within takes0 hr (by decide) (var_v (VE.d (ve_ixN 6 (vd_var 11))) (var_v (vd_var 7) var_nil)) (arV_len (arV_len arN_len)))) (vw_and1 (vt_tru (ve_callP C_law_within takes0 hr (by decide) (var_v (vd_var 7) (var_v (VE.d (ve_ixN 3 (vd_var 11))) var_nil)) (arV_len (arV_len arN_len))))))))) (fun _ _ _ _ _ => (vd_var 11)) (by rfl) rfl (by decide))
  (vss_one (vs_if (vt_cmpV (op_neP hu) opv_eq (nomark _) (VD.v (vd_callB1 call_len cv_len (VD.v (vd_var 10)) (hm := T.z_len) (hv := by decide +kernel))) (VD.v vd_int))
  (vss_one (vs_ret (VD.v vd_bl)))
  vss_nil)))))))))))))
  (vss_one (vs_ret (VD.v (vd_and (vd_cmp op_isBl opd_isBl (nomark _) (VE.d (ve_callP C_is_shelling vtakes hr (by decide) (var_v (VE.d (ve_lst (va_cons (vd_tup (va_cons vd_int (va_cons vd_int va_nil))) (va_cons (vd_tup (va_cons vd_int (va_cons vd_int va_nil))) va_nil)))) var_nil) (arV_len arN_len))) vd_bl) (vd_one (vd_cmp op_isBl opd_isBl (nomark _) (VE.d (ve_callP C_is_shelling vtakes hr (by decide) (var_v (VE.d (ve_lst (va_cons (vd_tup (va_cons vd_int va_nil)) va_nil))) var_nil) (arV_len arN_len))) vd_bl))))))))
end VL

set_option Elab.async false
set_option linter.all false
set_option autoImplicit false
set_option maxRecDepth 100000
namespace VL
open PySem PySem.Spec L2
open PyProof.Rows hiding St

/-- a row of ints, a list or a tuple -/
def Sq (d : D) (l : List Int) : Prop := d = tI l ∨ d = lI l
theorem Sq.in {d : D} {l : List Int} (h : Sq d l) (neg : Bool) (i : Int) : dIn neg (.int i) d = some (.bl (if neg then !decide (i ∈ l) else decide (i ∈ l))) := by
  rcases h with rfl | rfl
  · exact dIn_tup neg i l
  · exact dIn_lst neg i l
theorem Sq.items {d : D} {l : List Int} (h : Sq d l) : itemsV ⟨false, 0, d⟩ = some (l.map D.int) := by
  rcases h with rfl | rfl <;> rfl
theorem dLen_tI (l : List Int) : dLen (tI l) = some (.int l.length) := by simp [dLen, tI]
theorem dLen_lI (l : List Int) : dLen (lI l) = some (.int l.length) := by simp [dLen, lI]
theorem dLen_lst (l : List D) : dLen (.lst l) = some (.int l.length) := rfl
theorem len_filter_zero (l1 l2 : List Int) : (((l1.filter fun i => !decide (i ∈ l2)).length : Int) == 0) = l1.all fun i => decide (i ∈ l2) := by
  apply Bool.eq_iff_iff.mpr
  simp [List.filter_eq_nil_iff]
theorem within_ok (K : PySem.W.Frag) (ev : Ev) {d1 d2 : D} {l1 l2 : List Int} (h1 : Sq d1 l1) (h2 : Sq d2 l2) (hl : l1.length ≤ 1000) :
    f_law_within K ev [⟨false, some (0, d1)⟩, ⟨false, some (0, d2)⟩] = .ok (.fzn (.bl (l1.all fun i => decide (i ∈ l2)))) [⟨false, none⟩, ⟨false, none⟩] := by
  have hc := gLc_filterI (vs := [2]) (v := 2) (gi := gSeq true (gV (gVar 0))) (gt := gBool (gOpV true (dIn true) (gV (gVar 2)) (gV (gVar 1)))) (S := [⟨false, some (0, d1)⟩, ⟨false, some (0, d2)⟩, ⟨false, none⟩]) (l := l1) (fun i => !decide (i ∈ l2))
    (by simp [gSeq, gV, gVar, R.bind, h1.items]) rfl (by omega) rfl (fun i hi => by simp [gBool, gOpV, gV, gVar, R.bind, Sl.wipe, wipeFrom, Sl.put, h2.in])
  unfold f_law_within fnSem g_law_within
  simp [gRet, gV, gOpV, gApp1, hc, R.bind, dLen, dEq_int, gC, keepN, len_filter_zero]
def inter (a b : List Int) : List Int := a.filter fun i => decide (i ∈ b)
theorem shares_ok (K : PySem.W.Frag) (ev : Ev) {d1 d2 : D} {l1 l2 : List Int} (h1 : d1 = tI l1) (h2 : Sq d2 l2) (hl : l1.length ≤ 1000) :
    f_shares_side K ev [⟨false, some (0, d1)⟩, ⟨false, some (0, d2)⟩] = .ok (.fzn (.bl (((inter l1 l2).length : Int) == (l1.length : Int) - 1))) [⟨false, none⟩, ⟨false, none⟩] := by
  have h1' : Sq d1 l1 := .inl h1
  have hc := gLc_filterI (vs := [2]) (v := 2) (gi := gSeq true (gV (gVar 0))) (gt := gBool (gOpV true (dIn false) (gV (gVar 2)) (gV (gVar 1)))) (S := [⟨false, some (0, d1)⟩, ⟨false, some (0, d2)⟩, ⟨false, none⟩]) (l := l1) (fun i => decide (i ∈ l2))
    (by simp [gSeq, gV, gVar, R.bind, h1'.items]) rfl (by omega) rfl (fun i hi => by simp [gBool, gOpV, gV, gVar, R.bind, Sl.wipe, wipeFrom, Sl.put, h2.in])
  subst h1
  unfold f_shares_side fnSem g_shares_side
  simp [gRet, gV, gVar, gOp, gOpV, gApp1, hc, R.bind, dLen_lst, dEq_int, gC, keepN, inter, dLen_tI, hI]
/-- _law_take: the deck loses its last number, or is empty and stays -/
theorem take_ok (K : PySem.W.Frag) (ev : Ev) (ns : List Int) (m : Int) (hm : 0 < m) : ∃ r ms, 0 ≤ r ∧ r < m ∧ ms.length ≤ ns.length ∧
    f_law_take K ev [⟨true, some (1, lI ns)⟩, ⟨false, some (0, .int m)⟩] = .ok (.fzn (.int r)) [⟨true, some (1, lI ms)⟩, ⟨false, none⟩] := by
  rcases List.eq_nil_or_concat ns with rfl | ⟨ms, x, rfl⟩
  · refine ⟨0, [], by omega, hm, by simp, ?_⟩
    unfold f_law_take fnSem g_law_take
    simp [gThen, gIfS, gBool, gOpV, gV, gApp1, gBor, R.bind, dLen, dEq_int, gC, gRet, keepN, lI]
  · refine ⟨x % m, ms, Int.emod_nonneg _ (by omega), Int.emod_lt_of_pos _ hm, by simp, ?_⟩
    unfold f_law_take fnSem g_law_take
    simp [gThen, gIfS, gBool, gOpV, gV, gApp1, gBor, R.bind, dLen, dEq_int, gC, gRet, keepN, lI, gNext, gOp, gApp, gCons, gNil, gD, gPop, dInt, gVar, hI, hm, Sl.put, show ¬ ((ms.length : Int) + 1 = 0) by omega]
def sD (sets : List (List Int)) : D := .lst (sets.map tI)
theorem items_sD1 (L : List (List Int)) : itemsV ⟨false, 1, sD L⟩ = some (L.map tI) := rfl
theorem items_sD0 (L : List (List Int)) : itemsV ⟨false, 0, sD L⟩ = some (L.map tI) := rfl
def sharesB (one o : List Int) : Bool := ((inter one o).length : Int) == (one.length : Int) - 1
/-- the sides that the earlier sets give -/
def sidesOf (sets : List (List Int)) (k : Nat) (one : List Int) : List (List Int) := ((sets.take k).filter (sharesB one)).map (inter one)
def subB (a b : List Int) : Bool := a.all fun i => decide (i ∈ b)
def hasSides (sets : List (List Int)) (k : Nat) (one : List Int) : Bool := (sets.take k).all fun o => (sidesOf sets k one).any fun s => subB (inter one o) s
theorem has_ok (K : PySem.W.Frag) (ev : Ev) {sets : List (List Int)} {k : Nat} (hk : k < sets.length) (hs : sets.length ≤ 1000) (hl : ∀ l ∈ sets, l.length ≤ 1000) :
    ∃ T', f_has_sides K ev [⟨false, some (0, sD sets)⟩, ⟨false, some (0, .int (k : Nat))⟩] = .ok (.fzn (.bl (hasSides sets k sets[k]))) T' := by
  have hone : sets[k].length ≤ 1000 := hl _ (List.getElem_mem hk)
  generalize hone' : sets[k] = one at hone ⊢
  have hat : atI (sets.map tI) (k : Int) = some (tI one) := by
    rw [atI_nat (by simpa using hk)]; simp [hone']
  -- the sides
  have hin : ∀ (o : List Int) (v3 v4 v5 : Option (Nat × D)) (hw : True), gLc true [(6 : Nat)] (gSeq true (gV (gVar 2))) (gaName 6) (gBool (gOpV true (dIn false) (gV (gVar 6)) (gV (gVar 4)))) (gVar 6)
      [⟨false, some (0, sD sets)⟩, ⟨false, some (0, .int (k : Nat))⟩, ⟨false, some (0, tI one)⟩, ⟨false, v3⟩, ⟨false, some (0, tI o)⟩, ⟨false, v5⟩, ⟨false, none⟩, ⟨false, none⟩] =
      .ok ⟨false, 1, lI (inter one o)⟩ [⟨false, some (0, sD sets)⟩, ⟨false, some (0, .int (k : Nat))⟩, ⟨false, some (0, tI one)⟩, ⟨false, v3⟩, ⟨false, some (0, tI o)⟩, ⟨false, v5⟩, ⟨false, none⟩, ⟨false, none⟩] := fun o v3 v4 v5 _ => by
    have ho : Sq (tI o) o := .inl rfl
    have h1 : Sq (tI one) one := .inl rfl
    exact gLc_filterI (fun i => decide (i ∈ o)) (by simp [gSeq, gV, gVar, R.bind, h1.items]) rfl (by omega) rfl (fun i hi => by simp [gBool, gOpV, gV, gVar, R.bind, Sl.wipe, wipeFrom, Sl.put, ho.in])
  have hsl : ∀ (r : Sl), gSl true (gV (gVar 0)) none (some (gVar 1)) (⟨false, some (0, sD sets)⟩ :: ⟨false, some (0, .int (k : Nat))⟩ :: r) = .ok ⟨false, 1, sD (sets.take k)⟩ (⟨false, some (0, sD sets)⟩ :: ⟨false, some (0, .int (k : Nat))⟩ :: r) := fun r => by
    simp [gSl, gV, gVar, R.bind, gPart, slV, sD, Vl.lev, cutD_take (xs := sets.map tI) (by simpa using Nat.le_of_lt hk), List.map_take]
  have hsides := gLc_map (vs := [4]) (v := 4) (gi := gSeq true (gSl true (gV (gVar 0)) none (some (gVar 1)))) (gt := gTru (gCallP (f_shares_side K ev) (gArV (gVar 2) (gArV (gVar 4) gArN)))) (ge := gD (gLc true [(6 : Nat)] (gSeq true (gV (gVar 2))) (gaName 6) (gBool (gOpV true (dIn false) (gV (gVar 6)) (gV (gVar 4)))) (gVar 6)))
    (S := [⟨false, some (0, sD sets)⟩, ⟨false, some (0, .int (k : Nat))⟩, ⟨false, some (0, tI one)⟩, ⟨false, none⟩, ⟨false, none⟩, ⟨false, none⟩, ⟨false, none⟩, ⟨false, none⟩]) (L := sets.take k) tI (sharesB one) (fun o => lI (inter one o))
    (by simp [gSeq, hsl, R.bind, items_sD1]) rfl (by simp; omega) rfl (fun o ho => ⟨by
      have hso := shares_ok K ev (d1 := tI one) (d2 := tI o) rfl (.inl rfl) hone
      simp [gTru, gCallP, gArV, gArN, gVar, R.bind, Sl.wipe, wipeFrom, Sl.put, allV, argSl, hso, truD, sharesB], fun _ => ⟨_, by
      simp [gD, Sl.wipe, wipeFrom, Sl.put, hin o none none none trivial, R.bind]; rfl⟩⟩)
  have e3 : D.lst (((sets.take k).filter (sharesB one)).map fun o => lI (inter one o)) = D.lst ((sidesOf sets k one).map lI) := by
    unfold sidesOf; rw [List.map_map]; rfl
  rw [e3] at hsides
  -- the loop
  have hloop := loopFor_findM (c := tI) (L := sets.take k) (ga := gaName 4) (gb := gThen (gSet 5 (gV (gD (gLc true [(6 : Nat)] (gSeq true (gV (gVar 2))) (gaName 6) (gBool (gOpV true (dIn false) (gV (gVar 6)) (gV (gVar 4)))) (gVar 6)))))
    (gIfS (gNot (gTru (gLc true [(7 : Nat)] (gSeq true (gV (gVar 3))) (gaName 7) (gNot (gTru (gLc true [(6 : Nat)] (gSeq true (gV (gVar 5))) (gaName 6) (gBool (gOpV true (dIn true) (gV (gVar 6)) (gV (gVar 7)))) (gVar 6)))) (gVar 7)))) (gRet (gV (gC (.bl false)))) gNext))
    (fun S => ∃ v4 v5, S = [⟨false, some (0, sD sets)⟩, ⟨false, some (0, .int (k : Nat))⟩, ⟨false, some (0, tI one)⟩, ⟨false, some (0, .lst ((sidesOf sets k one).map lI))⟩, ⟨false, v4⟩, ⟨false, v5⟩, ⟨false, none⟩, ⟨false, none⟩])
    (fun S => S.length = 8) (fun o => !((sidesOf sets k one).any fun s => subB (inter one o) s)) (.fzn (.bl false))
    (S := [⟨false, some (0, sD sets)⟩, ⟨false, some (0, .int (k : Nat))⟩, ⟨false, some (0, tI one)⟩, ⟨false, some (0, .lst ((sidesOf sets k one).map lI))⟩, ⟨false, none⟩, ⟨false, none⟩, ⟨false, none⟩, ⟨false, none⟩]) ⟨none, none, rfl⟩ (by
      rintro o ho S ⟨v4, v5, rfl⟩
      have hm : (inter one o).length ≤ 1000 := Nat.le_trans (List.length_filter_le _ _) hone
      have hf := gLc_map (vs := [7]) (v := 7) (gi := gSeq true (gV (gVar 3))) (gt := gNot (gTru (gLc true [(6 : Nat)] (gSeq true (gV (gVar 5))) (gaName 6) (gBool (gOpV true (dIn true) (gV (gVar 6)) (gV (gVar 7)))) (gVar 6)))) (ge := gVar 7)
        (S := [⟨false, some (0, sD sets)⟩, ⟨false, some (0, .int (k : Nat))⟩, ⟨false, some (0, tI one)⟩, ⟨false, some (0, .lst ((sidesOf sets k one).map lI))⟩, ⟨false, some (0, tI o)⟩, ⟨false, some (0, lI (inter one o))⟩, ⟨false, none⟩, ⟨false, none⟩]) (L := sidesOf sets k one) lI (fun s => subB (inter one o) s) lI
        (by simp [gSeq, gV, gVar, R.bind, itemsV, Vl.lev]) rfl (by
          unfold sidesOf
          rw [List.length_map]
          refine Nat.le_trans (List.length_filter_le _ _) ?_
          rw [List.length_take]; omega) rfl (fun s hs => by
          have hq : Sq (lI s) s := .inr rfl
          have hm' : Sq (lI (inter one o)) (inter one o) := .inr rfl
          have hc := gLc_filterI (vs := [6]) (v := 6) (gi := gSeq true (gV (gVar 5))) (gt := gBool (gOpV true (dIn true) (gV (gVar 6)) (gV (gVar 7)))) (S := [⟨false, some (0, sD sets)⟩, ⟨false, some (0, .int (k : Nat))⟩, ⟨false, some (0, tI one)⟩, ⟨false, some (0, .lst ((sidesOf sets k one).map lI))⟩, ⟨false, some (0, tI o)⟩, ⟨false, some (0, lI (inter one o))⟩, ⟨false, none⟩, ⟨false, some (0, lI s)⟩]) (l := inter one o) (fun i => !decide (i ∈ s))
            (by simp [gSeq, gV, gVar, R.bind, hm'.items]) rfl (by omega) rfl (fun i hi => by simp [gBool, gOpV, gV, gVar, R.bind, Sl.wipe, wipeFrom, Sl.put, hq.in])
          refine ⟨?_, fun _ => ⟨_, by simp [Sl.wipe, wipeFrom, Sl.put, gVar]; rfl⟩⟩
          have e : (((inter one o).filter fun i => !decide (i ∈ s)).isEmpty) = subB (inter one o) s := by
            apply Bool.eq_iff_iff.mpr
            simp [subB, List.isEmpty_iff, List.filter_eq_nil_iff]
          simp [gNot, gTru, Sl.wipe, wipeFrom, Sl.put, hc, R.bind, truD, e])
      have e5 : ((((sidesOf sets k one).filter fun s => subB (inter one o) s).map lI).isEmpty) = !((sidesOf sets k one).any fun s => subB (inter one o) s) := by
        apply Bool.eq_iff_iff.mpr
        simp [List.isEmpty_iff, List.filter_eq_nil_iff]
      have h4 := hin o (some (0, .lst ((sidesOf sets k one).map lI))) none v5 trivial
      have hset : gSet 5 (gV (gD (gLc true [(6 : Nat)] (gSeq true (gV (gVar 2))) (gaName 6) (gBool (gOpV true (dIn false) (gV (gVar 6)) (gV (gVar 4)))) (gVar 6))))
          [⟨false, some (0, sD sets)⟩, ⟨false, some (0, .int (k : Nat))⟩, ⟨false, some (0, tI one)⟩, ⟨false, some (0, .lst ((sidesOf sets k one).map lI))⟩, ⟨false, some (0, tI o)⟩, ⟨false, v5⟩, ⟨false, none⟩, ⟨false, none⟩] = .ok .nx
          [⟨false, some (0, sD sets)⟩, ⟨false, some (0, .int (k : Nat))⟩, ⟨false, some (0, tI one)⟩, ⟨false, some (0, .lst ((sidesOf sets k one).map lI))⟩, ⟨false, some (0, tI o)⟩, ⟨false, some (0, lI (inter one o))⟩, ⟨false, none⟩, ⟨false, none⟩] := by
        simp [gSet, gV, gD, h4, R.bind, Sl.put]
      refine ⟨[⟨false, some (0, sD sets)⟩, ⟨false, some (0, .int (k : Nat))⟩, ⟨false, some (0, tI one)⟩, ⟨false, some (0, .lst ((sidesOf sets k one).map lI))⟩, ⟨false, some (0, tI o)⟩, ⟨false, v5⟩, ⟨false, none⟩, ⟨false, none⟩],
        [⟨false, some (0, sD sets)⟩, ⟨false, some (0, .int (k : Nat))⟩, ⟨false, some (0, tI one)⟩, ⟨false, some (0, .lst ((sidesOf sets k one).map lI))⟩, ⟨false, some (0, tI o)⟩, ⟨false, some (0, lI (inter one o))⟩, ⟨false, none⟩, ⟨false, none⟩], by simp [gaName, Sl.put], ?_⟩
      cases hp : (sidesOf sets k one).any fun s => subB (inter one o) s with
      | true =>
        rw [hp] at e5
        rw [if_neg (by simp)]
        exact ⟨.inl (by simp only [gThen, hset, R.bind]; simp [gIfS, gNot, gTru, hf, R.bind, truD, e5, gNext]), _, _, rfl⟩
      | false =>
        rw [hp] at e5
        rw [if_pos (by simp)]
        refine ⟨?_, rfl⟩
        simp only [gThen, hset, R.bind]
        simp [gIfS, gNot, gTru, hf, R.bind, truD, e5, gRet, gV, gC])
  obtain ⟨S', hloop⟩ := hloop
  have hfor : ∀ r, gSeq false (gSl true (gV (gVar 0)) none (some (gVar 1))) (⟨false, some (0, sD sets)⟩ :: ⟨false, some (0, .int (k : Nat))⟩ :: r) = .ok ((sets.take k).map tI) (⟨false, some (0, sD sets)⟩ :: ⟨false, some (0, .int (k : Nat))⟩ :: r) := fun r => by
    simp [gSeq, hsl, R.bind, items_sD1]
  have hix : ∀ r, gIxN 0 (gVar 1) (⟨false, some (0, sD sets)⟩ :: ⟨false, some (0, .int (k : Nat))⟩ :: r) = .ok (.fzn (tI one)) (⟨false, some (0, sD sets)⟩ :: ⟨false, some (0, .int (k : Nat))⟩ :: r) := fun r => by
    simp [gIxN, gVar, R.bind, ixV, sD, hat, elemV]
  unfold f_has_sides
  have e9 : hasSides sets k one = !((sets.take k).any fun o => !((sidesOf sets k one).any fun s => subB (inter one o) s)) := by
    unfold hasSides; rw [List.all_eq_not_any_not]
  have main : ∃ S', g_has_sides K ev [⟨false, some (0, sD sets)⟩, ⟨false, some (0, .int (k : Nat))⟩, ⟨false, none⟩, ⟨false, none⟩, ⟨false, none⟩, ⟨false, none⟩, ⟨false, none⟩, ⟨false, none⟩] = .ok (.rt (.fzn (.bl (hasSides sets k one)))) S' ∧ 2 ≤ S'.length := by
    unfold g_has_sides
    cases hp : (sets.take k).any fun o => !((sidesOf sets k one).any fun s => subB (inter one o) s) with
    | true =>
      rw [if_pos hp] at hloop
      refine ⟨S', ?_, by omega⟩
      refine (gThen_nx (gSet_eq (gFz_eq (hix _)) rfl)).trans ?_
      refine (gThen_nx (gSet_eq (gFz_eq hsides) rfl)).trans ?_
      refine (gThen_rt ((gFor_eq (hfor _)).trans hloop.1)).trans ?_
      rw [e9, hp]; rfl
    | false =>
      rw [if_neg (by simp [hp])] at hloop
      obtain ⟨h1, v4, v5, rfl⟩ := hloop
      refine ⟨[⟨false, some (0, sD sets)⟩, ⟨false, some (0, .int (k : Nat))⟩, ⟨false, some (0, tI one)⟩, ⟨false, some (0, .lst ((sidesOf sets k one).map lI))⟩, ⟨false, v4⟩, ⟨false, v5⟩, ⟨false, none⟩, ⟨false, none⟩], ?_, by simp⟩
      refine (gThen_nx (gSet_eq (gFz_eq (hix _)) rfl)).trans ?_
      refine (gThen_nx (gSet_eq (gFz_eq hsides) rfl)).trans ?_
      refine (gThen_nx ((gFor_eq (hfor _)).trans h1)).trans ?_
      rw [e9, hp]; rfl
  obtain ⟨S9, h9, hl9⟩ := main
  exact ⟨_, fnSem_rt h9 hl9⟩
end VL

set_option Elab.async false
set_option linter.all false
set_option autoImplicit false
set_option maxRecDepth 100000
namespace VL
open PySem PySem.Spec L2
open PyProof.Rows hiding St

def isShell (sets : List (List Int)) : Bool := decide ((sets.map srt).Nodup) && (List.range sets.length).all fun k => hasSides sets k (sets[k]?.getD [])
theorem lev_fzn (d : D) : (Vl.fzn d).lev = true := by first | rfl | simp [Vl.lev, Vl.fzn]
theorem dLt_int (a b : Int) : dLt (.int a) (.int b) = some (.bl (decide (a < b))) := by first | rfl | simp [dLt]
theorem dLen_sD (L : List (List Int)) : dLen (sD L) = some (.int L.length) := by simp [sD, dLen_lst]
theorem filter_all {α : Type} (l : List α) : l.filter (fun _ => true) = l := List.filter_eq_self.mpr (by simp)
theorem dRange1_nat {n : Nat} (h : n ≤ 1000000) : dRange1 [.int (n : Nat)] = some ((List.range n).map fun i : Nat => D.int (i : Nat)) := by
  have h1 : -(2 ^ 62) ≤ (n : Int) ∧ (n : Int) < 2 ^ 62 := by
    have : (2 : Int) ^ 62 = 4611686018427387904 := by decide
    rw [this]; omega
  simp only [dRange1]
  rw [if_pos h1, Int.toNat_natCast, rangeD_map]
theorem gIt_eq {h : List D → Option (List D)} {ga : Sl → R (List D)} {ds xs : List D} {S S1 : Sl} (h1 : ga S = .ok ds S1) (h2 : h ds = some xs) : gIt h ga S = .ok xs S1 := by
  unfold gIt
  simp only [h1, R.bind, h2]
theorem gCons1 {g : Sl → R D} {S S1 : Sl} {d : D} (hg : g S = .ok d S1) : gCons g gNil S = .ok [d] S1 := by
  unfold gCons gNil
  simp only [hg, R.bind]
theorem gIt_range {n : Nat} (h : n ≤ 1000000) {g : Sl → R D} {S S1 : Sl} (hg : g S = .ok (.int (n : Nat)) S1) : gIt dRange1 (gCons g gNil) S = .ok ((List.range n).map fun i : Nat => D.int (i : Nat)) S1 :=
  gIt_eq (gCons1 hg) (dRange1_nat h)
theorem gApp1_len {g : Sl → R Vl} {S : Sl} {x : Vl} {n : Nat} (hg : g S = .ok x S) (hx : dLen x.d = some (.int (n : Nat))) : gApp1 dLen g S = .ok (.int (n : Nat)) S := by
  unfold gApp1
  simp only [hg, R.bind, hx]
theorem is_c (K : PySem.W.Frag) (ev : Ev) {sets : List (List Int)} (hs : sets.length < 64) (hl : ∀ l ∈ sets, l.length ≤ 1000) :
    gBool (gOp dLt (gLenSet (gLc true [(2 : Nat)] (gSeq true (gV (gVar 0))) (gaName 2) gYes (gTupOf (gNew1 dSorted (gV (gVar 2)))))) (gApp1 dLen (gV (gVar 0)))) [⟨false, some (0, sD sets)⟩, ⟨false, none⟩, ⟨false, none⟩] = .ok (!decide ((sets.map srt).Nodup)) [⟨false, some (0, sD sets)⟩, ⟨false, none⟩, ⟨false, none⟩] := by
  have hlc := gLc_map (vs := [2]) (v := 2) (gi := gSeq true (gV (gVar 0))) (gt := gYes) (ge := gTupOf (gNew1 dSorted (gV (gVar 2)))) (S := [⟨false, some (0, sD sets)⟩, ⟨false, none⟩, ⟨false, none⟩]) (L := sets) tI (fun _ => true) (fun l => tI (srt l))
    (by simp [gSeq, gV, gVar, R.bind, items_sD0]) rfl (by omega) rfl (fun l hl' => ⟨rfl, fun _ => ⟨_, by
      have := hl l hl'
      simp [gTupOf, gNew1, gV, gVar, Sl.wipe, wipeFrom, Sl.put, R.bind, dSorted_ints (.inl rfl) (show l.length ≤ 16777216 by omega)]; rfl⟩⟩)
  have e1 : (D.lst ((sets.filter fun _ => true).map fun l => tI (srt l))) = D.lst ((sets.map srt).map tI) := by rw [filter_all, List.map_map]; rfl
  rw [e1] at hlc
  have h9 := nub_lt (sets.map srt)
  rw [List.length_map] at h9
  have e : decide ((nub (sets.map srt)).length < sets.length) = !decide ((sets.map srt).Nodup) := by
    apply Bool.eq_iff_iff.mpr
    simp only [decide_eq_true_eq, Bool.not_eq_true', decide_eq_false_iff_not]
    rw [← h9]
  simp [gBool, gOp, gLenSet, hlc, R.bind, Vl.lev, dLenSet_rows (sets.map srt) (by simpa using hs), -List.map_map, gApp1, gV, gVar, dLen_sD, dLt_int, e]
theorem is_ok (K : PySem.W.Frag) (ev : Ev) {sets : List (List Int)} (hs : sets.length < 64) (hl : ∀ l ∈ sets, l.length ≤ 1000) :
    ∃ T', f_is_shelling K ev [⟨false, some (0, sD sets)⟩] = .ok (.fzn (.bl (isShell sets))) T' := by
  have hc := is_c K ev hs hl
  have main : ∃ S', g_is_shelling K ev [⟨false, some (0, sD sets)⟩, ⟨false, none⟩, ⟨false, none⟩] = .ok (.rt (.fzn (.bl (isShell sets)))) S' ∧ 1 ≤ S'.length := by
    unfold g_is_shelling
    cases hn : decide ((sets.map srt).Nodup) with
    | false =>
      rw [hn] at hc
      refine ⟨[⟨false, some (0, sD sets)⟩, ⟨false, none⟩, ⟨false, none⟩], ?_, by simp⟩
      refine (gThen_rt (x := .fzn (.bl (isShell sets))) ((gIfS_t hc).trans ?_))
      simp only [isShell, hn, Bool.false_and]; rfl
    | true =>
      rw [hn] at hc
      have hloop := loopFor_findM (c := fun k : Nat => D.int (k : Nat)) (L := List.range sets.length) (ga := gaName 1) (gb := gIfS (gNot (gTru (gCallP (f_has_sides K ev) (gArV (gVar 0) (gArV (gVar 1) gArN))))) (gRet (gV (gC (.bl false)))) gNext)
        (fun S => ∃ v1, S = [⟨false, some (0, sD sets)⟩, ⟨false, v1⟩, ⟨false, none⟩]) (fun S => S.length = 3) (fun k => !hasSides sets k (sets[k]?.getD [])) (.fzn (.bl false))
        (S := [⟨false, some (0, sD sets)⟩, ⟨false, none⟩, ⟨false, none⟩]) ⟨none, rfl⟩ (by
          rintro k hk S ⟨v1, rfl⟩
          have hk' : k < sets.length := List.mem_range.mp hk
          obtain ⟨T', hh⟩ := has_ok K ev hk' (by omega) hl
          have eg : sets[k]?.getD [] = sets[k] := by simp [hk']
          have hcall : gCallP (f_has_sides K ev) (gArV (gVar 0) (gArV (gVar 1) gArN)) [⟨false, some (0, sD sets)⟩, ⟨false, some (0, .int (k : Nat))⟩, ⟨false, none⟩] = .ok (.fzn (.bl (hasSides sets k sets[k]))) [⟨false, some (0, sD sets)⟩, ⟨false, some (0, .int (k : Nat))⟩, ⟨false, none⟩] :=
            gCallP_eq (as := [.v (sD sets), .v (.int (k : Nat))]) rfl rfl rfl hh
          refine ⟨[⟨false, some (0, sD sets)⟩, ⟨false, some (0, .int (k : Nat))⟩, ⟨false, none⟩], [⟨false, some (0, sD sets)⟩, ⟨false, some (0, .int (k : Nat))⟩, ⟨false, none⟩], by simp [gaName, Sl.put], ?_⟩
          rw [eg]
          cases hp : hasSides sets k sets[k] with
          | true => exact (if_neg (by simp)).mpr ⟨.inl (by simp [gIfS, gNot, gTru, hcall, R.bind, truD, hp, gNext, Vl.fzn]), _, rfl⟩
          | false => exact (if_pos (by simp)).mpr ⟨by simp [gIfS, gNot, gTru, hcall, R.bind, truD, hp, gRet, gV, gC, Vl.fzn], rfl⟩)
      obtain ⟨S', hloop⟩ := hloop
      have hr : gIt dRange1 (gCons (gApp1 dLen (gV (gVar 0))) gNil) [⟨false, some (0, sD sets)⟩, ⟨false, none⟩, ⟨false, none⟩] = .ok ((List.range sets.length).map fun k : Nat => D.int (k : Nat)) [⟨false, some (0, sD sets)⟩, ⟨false, none⟩, ⟨false, none⟩] := by
        exact gIt_range (by omega) (gApp1_len (x := .fzn (sD sets)) rfl (dLen_sD sets))
      have e9 : isShell sets = !((List.range sets.length).any fun k => !hasSides sets k (sets[k]?.getD [])) := by
        unfold isShell; rw [hn, Bool.true_and, List.all_eq_not_any_not]
      cases hp : (List.range sets.length).any fun k => !hasSides sets k (sets[k]?.getD []) with
      | true =>
        rw [if_pos hp] at hloop
        refine ⟨S', ?_, by omega⟩
        refine (gThen_nx ((gIfS_f hc).trans rfl)).trans ?_
        refine (gThen_rt ((gFor_eq hr).trans hloop.1)).trans ?_
        rw [e9, hp]; rfl
      | false =>
        rw [if_neg (by simp [hp])] at hloop
        obtain ⟨h1, v1, rfl⟩ := hloop
        refine ⟨[⟨false, some (0, sD sets)⟩, ⟨false, v1⟩, ⟨false, none⟩], ?_, by simp⟩
        refine (gThen_nx ((gIfS_f hc).trans rfl)).trans ?_
        refine (gThen_nx ((gFor_eq hr).trans h1)).trans ?_
        rw [e9, hp]; rfl
  obtain ⟨S9, h9, hl9⟩ := main
  exact ⟨_, fnSem_rt h9 hl9⟩
end VL

set_option Elab.async false
set_option linter.all false
set_option autoImplicit false
set_option maxRecDepth 100000
namespace VL
open PySem PySem.Spec L2
open PyProof.Rows hiding St

/-- a loop with a growing prefix -/
theorem loopFor_pre {α : Type} (c : α → D) {ga : D → Sl → Option Sl} {gb : Sl → R Out} (I : List α → Sl → Prop) : ∀ {L pre : List α} {S : Sl}, I pre S → (∀ a p S, a ∈ L → I p S → ∃ S1 S2, ga (c a) S = some S1 ∧ (gb S1 = .ok .nx S2 ∨ gb S1 = .ok .ct S2) ∧ I (p ++ [a]) S2) → ∃ S', loopFor ga gb (L.map c) S = .ok .nx S' ∧ I (pre ++ L) S'
  | [], pre, S, h0, _ => ⟨S, rfl, by simpa using h0⟩
  | x :: xs, pre, S, h0, h => by
    obtain ⟨S1, S2, h1, h2, h3⟩ := h x pre S (by simp) h0
    obtain ⟨S', e1, e2⟩ := loopFor_pre c (ga := ga) (gb := gb) I (L := xs) h3 fun a p S ha hI => h a p S (by simp [ha]) hI
    refine ⟨S', ?_, by simpa using e2⟩
    have e3 : loopFor ga gb ((x :: xs).map c) S = loopFor ga gb (xs.map c) S2 := by
      rcases h2 with h3 | h3 <;> simp [loopFor, h1, h3]
    rw [e3]; exact e1
abbrev OV := Option (Nat × D)
def shS (d : D) (v1 v2 v3 v4 v5 v6 v7 : OV) : Sl := [⟨false, some (0, d)⟩, ⟨false, v1⟩, ⟨false, v2⟩, ⟨false, v3⟩, ⟨false, v4⟩, ⟨false, v5⟩, ⟨false, v6⟩, ⟨false, v7⟩]
abbrev oi (i : Nat) : OV := some (0, .int (i : Nat))
theorem atI_sD {sets : List (List Int)} {k : Nat} (hk : k < sets.length) : atI (sets.map tI) (k : Int) = some (tI sets[k]) := by
  rw [atI_nat (by simpa using hk)]; simp
theorem ix_sD {sets : List (List Int)} {k : Nat} (hk : k < sets.length) (b : Bool) : ixV ⟨b, 0, sD sets⟩ (.int (k : Nat)) = some ⟨false, 0, tI sets[k]⟩ := by
  simp [ixV, sD, atI_sD hk, elemV]
theorem shIx1 {sets : List (List Int)} {k : Nat} (hk : k < sets.length) (v2 v3 v4 v5 v6 v7 : OV) : gIxN 0 (gVar 1) (shS (sD sets) (oi k) v2 v3 v4 v5 v6 v7) = .ok (.fzn (tI sets[k])) (shS (sD sets) (oi k) v2 v3 v4 v5 v6 v7) := by
  simp [gIxN, gVar, shS, R.bind, ix_sD hk, Vl.fzn]
theorem shIx2 {sets : List (List Int)} {k : Nat} (hk : k < sets.length) (v1 v3 v4 v5 v6 v7 : OV) : gIxN 0 (gVar 2) (shS (sD sets) v1 (oi k) v3 v4 v5 v6 v7) = .ok (.fzn (tI sets[k])) (shS (sD sets) v1 (oi k) v3 v4 v5 v6 v7) := by
  simp [gIxN, gVar, shS, R.bind, ix_sD hk, Vl.fzn]
/-- the pair k, p keeps the rule -/
def pairOk (sets : List (List Int)) (k : Nat) (one o : List Int) : Bool := !(((inter one o).length : Int) == (one.length : Int)) && (sets.take k).any fun e => sharesB one e && subB (inter one o) (inter one e)
theorem sh_common {sets : List (List Int)} (hl : ∀ l ∈ sets, l.length ≤ 1000) {k p : Nat} (hk : k < sets.length) (hp : p < sets.length) (v3 v4 v5 v6 : OV) :
    gSet 3 (gV (gD (gLc true [(7 : Nat)] (gSeq true (gIxN 0 (gVar 1))) (gaName 7) (gBool (gOpV true (dIn false) (gV (gVar 7)) (gIxN 0 (gVar 2)))) (gVar 7)))) (shS (sD sets) (oi k) (oi p) v3 v4 v5 v6 none) =
      .ok .nx (shS (sD sets) (oi k) (oi p) (some (0, lI (inter sets[k] sets[p]))) v4 v5 v6 none) := by
  have h1 := hl _ (List.getElem_mem hk)
  have hc := gLc_filterI (vs := [7]) (v := 7) (gi := gSeq true (gIxN 0 (gVar 1))) (gt := gBool (gOpV true (dIn false) (gV (gVar 7)) (gIxN 0 (gVar 2)))) (S := shS (sD sets) (oi k) (oi p) v3 v4 v5 v6 none) (l := sets[k]) (fun i => decide (i ∈ sets[p]))
    (by simp [gSeq, shIx1 hk, R.bind, Vl.fzn, itemsV, tI]) rfl (by omega) rfl (fun i hi => by
      have e : Sl.put ((shS (sD sets) (oi k) (oi p) v3 v4 v5 v6 none).wipe [7]) 7 (some (0, .int i)) = shS (sD sets) (oi k) (oi p) v3 v4 v5 v6 (some (0, .int i)) := rfl
      rw [e]
      have h2 : gV (gVar 7) (shS (sD sets) (oi k) (oi p) v3 v4 v5 v6 (some (0, .int i))) = .ok (.fzn (.int i)) (shS (sD sets) (oi k) (oi p) v3 v4 v5 v6 (some (0, .int i))) := rfl
      simp [gBool, gOpV, h2, shIx2 hp, R.bind, Vl.fzn, tI, dIn_tup])
  refine (gSet_eq (gFz_eq hc) rfl).trans rfl
theorem sh_side {sets : List (List Int)} (hl : ∀ l ∈ sets, l.length ≤ 1000) {k : Nat} (hk : k < sets.length) (e : List Int) (v2 v3 v4 v6 : OV) :
    gSet 6 (gV (gD (gLc true [(7 : Nat)] (gSeq true (gIxN 0 (gVar 1))) (gaName 7) (gBool (gOpV true (dIn false) (gV (gVar 7)) (gV (gVar 5)))) (gVar 7)))) (shS (sD sets) (oi k) v2 v3 v4 (some (0, tI e)) v6 none) =
      .ok .nx (shS (sD sets) (oi k) v2 v3 v4 (some (0, tI e)) (some (0, lI (inter sets[k] e))) none) := by
  have h1 := hl _ (List.getElem_mem hk)
  have hc := gLc_filterI (vs := [7]) (v := 7) (gi := gSeq true (gIxN 0 (gVar 1))) (gt := gBool (gOpV true (dIn false) (gV (gVar 7)) (gV (gVar 5)))) (S := shS (sD sets) (oi k) v2 v3 v4 (some (0, tI e)) v6 none) (l := sets[k]) (fun i => decide (i ∈ e))
    (by simp [gSeq, shIx1 hk, R.bind, Vl.fzn, itemsV, tI]) rfl (by omega) rfl (fun i hi => by
      simp [gBool, gOpV, gV, gVar, shS, Sl.wipe, wipeFrom, Sl.put, R.bind, Vl.fzn, tI, dIn_tup])
  refine (gSet_eq (gFz_eq hc) rfl).trans rfl
theorem dSub_int (a b : Int) : dSub (.int a) (.int b) = some (.int (a - b)) := by first | rfl | simp [dSub, hI]
theorem sh_good (K : PySem.W.Frag) (ev : Ev) {sets : List (List Int)} (hl : ∀ l ∈ sets, l.length ≤ 1000) {k : Nat} (hk : k < sets.length) (e o : List Int) (v2 : OV) (g : Bool) :
    gSet 4 (gV (gOrV (gVar 4) (gAndV (gOpV true (dEq false) (gV (gApp1 dLen (gV (gVar 6)))) (gV (gOp dSub (gApp1 dLen (gIxN 0 (gVar 1))) (gC (.int (1)))))) (gD (gCallP (f_law_within K ev) (gArV (gVar 3) (gArV (gVar 6) gArN)))))))
      (shS (sD sets) (oi k) v2 (some (0, lI (inter sets[k] o))) (some (0, .bl g)) (some (0, tI e)) (some (0, lI (inter sets[k] e))) none) =
    .ok .nx (shS (sD sets) (oi k) v2 (some (0, lI (inter sets[k] o))) (some (0, .bl (g || sharesB sets[k] e && subB (inter sets[k] o) (inter sets[k] e)))) (some (0, tI e)) (some (0, lI (inter sets[k] e))) none) := by
  have h1 := hl _ (List.getElem_mem hk)
  have h2 : (inter sets[k] o).length ≤ 1000 := Nat.le_trans (List.length_filter_le _ _) h1
  have hw := within_ok K ev (d1 := lI (inter sets[k] o)) (d2 := lI (inter sets[k] e)) (.inr rfl) (.inr rfl) h2
  generalize hSt : shS (sD sets) (oi k) v2 (some (0, lI (inter sets[k] o))) (some (0, .bl g)) (some (0, tI e)) (some (0, lI (inter sets[k] e))) none = S
  have hix := shIx1 hk v2 (some (0, lI (inter sets[k] o))) (some (0, .bl g)) (some (0, tI e)) (some (0, lI (inter sets[k] e))) none
  rw [hSt] at hix
  have hcall : gCallP (f_law_within K ev) (gArV (gVar 3) (gArV (gVar 6) gArN)) S = .ok (.fzn (.bl (subB (inter sets[k] o) (inter sets[k] e)))) S := by
    subst hSt
    exact gCallP_eq (as := [.v (lI (inter sets[k] o)), .v (lI (inter sets[k] e))]) rfl rfl rfl hw
  have hv4 : gVar 4 S = .ok (.bl g) S := by subst hSt; rfl
  have hv6 : gVar 6 S = .ok (lI (inter sets[k] e)) S := by subst hSt; rfl
  have ha : gOpV true (dEq false) (gV (gApp1 dLen (gV (gVar 6)))) (gV (gOp dSub (gApp1 dLen (gIxN 0 (gVar 1))) (gC (.int (1))))) S = .ok (.bl (sharesB sets[k] e)) S := by
    simp [gOpV, gV, gApp1, gOp, gC, hv6, hix, R.bind, Vl.fzn, dLen_lI, dLen_tI, dSub_int, dEq_int, sharesB]
  have hg : gV (gOrV (gVar 4) (gAndV (gOpV true (dEq false) (gV (gApp1 dLen (gV (gVar 6)))) (gV (gOp dSub (gApp1 dLen (gIxN 0 (gVar 1))) (gC (.int (1)))))) (gD (gCallP (f_law_within K ev) (gArV (gVar 3) (gArV (gVar 6) gArN)))))) S = .ok ⟨false, 0, .bl (g || sharesB sets[k] e && subB (inter sets[k] o) (inter sets[k] e))⟩ S := by
    cases g <;> cases hs : sharesB sets[k] e <;> simp [gV, gOrV, gAndV, hv4, ha, hs, R.bind, gD, hcall, Vl.fzn]
  refine (gSet_eq hg (by subst hSt; rfl)).trans (by subst hSt; rfl)
/-- the loop over the earlier sets -/
theorem sh_goods (K : PySem.W.Frag) (ev : Ev) {sets : List (List Int)} (hl : ∀ l ∈ sets, l.length ≤ 1000) {k : Nat} (hk : k < sets.length) (o : List Int) (v2 v5 v6 : OV) :
    ∃ v5' v6', gFor (gSeq false (gSl true (gV (gVar 0)) none (some (gVar 1)))) (gaName 5)
  (gThen (gSet 6 (gV (gD (gLc true [(7 : Nat)] (gSeq true (gIxN 0 (gVar 1))) (gaName 7) (gBool (gOpV true (dIn false) (gV (gVar 7)) (gV (gVar 5)))) (gVar 7)))))
  (gSet 4 (gV (gOrV (gVar 4) (gAndV (gOpV true (dEq false) (gV (gApp1 dLen (gV (gVar 6)))) (gV (gOp dSub (gApp1 dLen (gIxN 0 (gVar 1))) (gC (.int (1)))))) (gD (gCallP (f_law_within K ev) (gArV (gVar 3) (gArV (gVar 6) gArN)))))))))
      (shS (sD sets) (oi k) v2 (some (0, lI (inter sets[k] o))) (some (0, .bl false)) v5 v6 none) =
    .ok .nx (shS (sD sets) (oi k) v2 (some (0, lI (inter sets[k] o))) (some (0, .bl ((sets.take k).any fun e => sharesB sets[k] e && subB (inter sets[k] o) (inter sets[k] e)))) v5' v6' none) := by
  have hi : gSeq false (gSl true (gV (gVar 0)) none (some (gVar 1))) (shS (sD sets) (oi k) v2 (some (0, lI (inter sets[k] o))) (some (0, .bl false)) v5 v6 none) = .ok ((sets.take k).map tI) (shS (sD sets) (oi k) v2 (some (0, lI (inter sets[k] o))) (some (0, .bl false)) v5 v6 none) := by
    simp [gSeq, gSl, gV, gVar, shS, R.bind, gPart, slV, sD, Vl.lev, cutD_take (xs := sets.map tI) (by simpa using Nat.le_of_lt hk), itemsV, List.map_take]
  obtain ⟨S', h1, v5', v6', rfl⟩ := loopFor_pre (c := tI) (ga := gaName 5) (gb := gThen (gSet 6 (gV (gD (gLc true [(7 : Nat)] (gSeq true (gIxN 0 (gVar 1))) (gaName 7) (gBool (gOpV true (dIn false) (gV (gVar 7)) (gV (gVar 5)))) (gVar 7)))))
    (gSet 4 (gV (gOrV (gVar 4) (gAndV (gOpV true (dEq false) (gV (gApp1 dLen (gV (gVar 6)))) (gV (gOp dSub (gApp1 dLen (gIxN 0 (gVar 1))) (gC (.int (1)))))) (gD (gCallP (f_law_within K ev) (gArV (gVar 3) (gArV (gVar 6) gArN)))))))))
    (fun p S => ∃ v5 v6, S = shS (sD sets) (oi k) v2 (some (0, lI (inter sets[k] o))) (some (0, .bl (p.any fun e => sharesB sets[k] e && subB (inter sets[k] o) (inter sets[k] e)))) v5 v6 none)
    (L := sets.take k) (pre := []) (S := shS (sD sets) (oi k) v2 (some (0, lI (inter sets[k] o))) (some (0, .bl false)) v5 v6 none) ⟨v5, v6, rfl⟩ (by
      rintro e p S he ⟨v5, v6, rfl⟩
      refine ⟨shS (sD sets) (oi k) v2 (some (0, lI (inter sets[k] o))) (some (0, .bl (p.any fun e => sharesB sets[k] e && subB (inter sets[k] o) (inter sets[k] e)))) (some (0, tI e)) v6 none, _, rfl, .inl ((gThen_nx (sh_side hl hk e v2 _ _ v6)).trans (sh_good K ev hl hk e o v2 _)), some (0, tI e), some (0, lI (inter sets[k] e)), ?_⟩
      simp [List.any_append])
  exact ⟨v5', v6', (gFor_eq hi).trans (by simpa using h1)⟩
/-- one pair -/
theorem sh_pair (K : PySem.W.Frag) (ev : Ev) {sets : List (List Int)} (hl : ∀ l ∈ sets, l.length ≤ 1000) {k p : Nat} (hk : k < sets.length) (hp : p < sets.length) (v3 v4 v5 v6 : OV) :
    ∃ v3' v4' v5' v6', (gThen (gSet 3 (gV (gD (gLc true [(7 : Nat)] (gSeq true (gIxN 0 (gVar 1))) (gaName 7) (gBool (gOpV true (dIn false) (gV (gVar 7)) (gIxN 0 (gVar 2)))) (gVar 7)))))
  (gThen (gIfS (gBool (gOpV true (dEq false) (gV (gApp1 dLen (gV (gVar 3)))) (gV (gApp1 dLen (gIxN 0 (gVar 1))))))
  (gRet (gV (gC (.bl false))))
  gNext)
  (gThen (gSet 4 (gV (gC (.bl false))))
  (gThen (gFor (gSeq false (gSl true (gV (gVar 0)) none (some (gVar 1)))) (gaName 5)
  (gThen (gSet 6 (gV (gD (gLc true [(7 : Nat)] (gSeq true (gIxN 0 (gVar 1))) (gaName 7) (gBool (gOpV true (dIn false) (gV (gVar 7)) (gV (gVar 5)))) (gVar 7)))))
  (gSet 4 (gV (gOrV (gVar 4) (gAndV (gOpV true (dEq false) (gV (gApp1 dLen (gV (gVar 6)))) (gV (gOp dSub (gApp1 dLen (gIxN 0 (gVar 1))) (gC (.int (1)))))) (gD (gCallP (f_law_within K ev) (gArV (gVar 3) (gArV (gVar 6) gArN))))))))))
  (gIfS (gNot (gTru (gV (gVar 4))))
  (gRet (gV (gC (.bl false))))
  gNext))))) (shS (sD sets) (oi k) (oi p) v3 v4 v5 v6 none) =
    .ok (if pairOk sets k sets[k] sets[p] then .nx else .rt (.fzn (.bl false))) (shS (sD sets) (oi k) (oi p) v3' v4' v5' v6' none) := by
  have hq : gBool (gOpV true (dEq false) (gV (gApp1 dLen (gV (gVar 3)))) (gV (gApp1 dLen (gIxN 0 (gVar 1))))) (shS (sD sets) (oi k) (oi p) (some (0, lI (inter sets[k] sets[p]))) v4 v5 v6 none) =
      .ok (((inter sets[k] sets[p]).length : Int) == (sets[k].length : Int)) (shS (sD sets) (oi k) (oi p) (some (0, lI (inter sets[k] sets[p]))) v4 v5 v6 none) := by
    have h3 : gVar 3 (shS (sD sets) (oi k) (oi p) (some (0, lI (inter sets[k] sets[p]))) v4 v5 v6 none) = .ok (lI (inter sets[k] sets[p])) (shS (sD sets) (oi k) (oi p) (some (0, lI (inter sets[k] sets[p]))) v4 v5 v6 none) := rfl
    simp [gBool, gOpV, gV, gApp1, h3, shIx1 hk, R.bind, Vl.fzn, dLen_lI, dLen_tI, dEq_int]
  cases he : (((inter sets[k] sets[p]).length : Int) == (sets[k].length : Int)) with
  | true =>
    rw [he] at hq
    refine ⟨some (0, lI (inter sets[k] sets[p])), v4, v5, v6, (gThen_nx (sh_common hl hk hp v3 v4 v5 v6)).trans ((gThen_rt (x := .fzn (.bl false)) ((gIfS_t hq).trans rfl)).trans ?_)⟩
    simp only [pairOk, he, Bool.not_true, Bool.false_and, Bool.false_eq_true, if_false]
  | false =>
    rw [he] at hq
    obtain ⟨v5', v6', hg⟩ := sh_goods K ev hl hk sets[p] (oi p) v5 v6
    refine ⟨some (0, lI (inter sets[k] sets[p])), some (0, .bl ((sets.take k).any fun e => sharesB sets[k] e && subB (inter sets[k] sets[p]) (inter sets[k] e))), v5', v6', (gThen_nx (sh_common hl hk hp v3 v4 v5 v6)).trans ((gThen_nx ((gIfS_f hq).trans rfl)).trans ((gThen_nx (gSet_eq (k := 0) (d := .bl false) (v := v4) rfl rfl)).trans ((gThen_nx hg).trans ?_)))⟩
    have hv : ∀ b, gNot (gTru (gV (gVar 4))) (shS (sD sets) (oi k) (oi p) (some (0, lI (inter sets[k] sets[p]))) (some (0, .bl b)) v5' v6' none) = .ok (!b) (shS (sD sets) (oi k) (oi p) (some (0, lI (inter sets[k] sets[p]))) (some (0, .bl b)) v5' v6' none) := fun b => rfl
    have hpo : pairOk sets k sets[k] sets[p] = (sets.take k).any fun e => sharesB sets[k] e && subB (inter sets[k] sets[p]) (inter sets[k] e) := by
      simp only [pairOk, he, Bool.not_false, Bool.true_and]
    rw [← hpo]
    cases hb : pairOk sets k sets[k] sets[p] with
    | true => exact (gIfS_f (hv true)).trans rfl
    | false => exact (gIfS_t (hv false)).trans rfl
end VL

set_option Elab.async false
set_option linter.all false
set_option autoImplicit false
set_option maxRecDepth 100000
namespace VL
open PySem PySem.Spec L2
open PyProof.Rows hiding St

def at' (sets : List (List Int)) (k : Nat) : List Int := sets[k]?.getD []
theorem at'_eq {sets : List (List Int)} {k : Nat} (hk : k < sets.length) : at' sets k = sets[k] := by simp [at', hk]
def shellRow (sets : List (List Int)) (k : Nat) : Bool := (List.range k).all fun p => pairOk sets k (at' sets k) (at' sets p)
def lawShell (sets : List (List Int)) : Bool := (List.range sets.length).all (shellRow sets)
theorem shells_ok (K : PySem.W.Frag) (ev : Ev) {sets : List (List Int)} (hs : sets.length < 64) (hl : ∀ l ∈ sets, l.length ≤ 1000) :
    ∃ T', f_law_shells K ev [⟨false, some (0, sD sets)⟩] = .ok (.fzn (.bl (lawShell sets))) T' := by
  have main : ∃ S', g_law_shells K ev (shS (sD sets) none none none none none none none) = .ok (.rt (.fzn (.bl (lawShell sets)))) S' ∧ 1 ≤ S'.length := by
    unfold g_law_shells
    have hloop := loopFor_findM (c := fun k : Nat => D.int (k : Nat)) (L := List.range sets.length) (ga := gaName 1) (gb := gFor (gIt dRange1 (gCons (gVar 1) gNil)) (gaName 2)
  (gThen (gSet 3 (gV (gD (gLc true [(7 : Nat)] (gSeq true (gIxN 0 (gVar 1))) (gaName 7) (gBool (gOpV true (dIn false) (gV (gVar 7)) (gIxN 0 (gVar 2)))) (gVar 7)))))
  (gThen (gIfS (gBool (gOpV true (dEq false) (gV (gApp1 dLen (gV (gVar 3)))) (gV (gApp1 dLen (gIxN 0 (gVar 1))))))
  (gRet (gV (gC (.bl false))))
  gNext)
  (gThen (gSet 4 (gV (gC (.bl false))))
  (gThen (gFor (gSeq false (gSl true (gV (gVar 0)) none (some (gVar 1)))) (gaName 5)
  (gThen (gSet 6 (gV (gD (gLc true [(7 : Nat)] (gSeq true (gIxN 0 (gVar 1))) (gaName 7) (gBool (gOpV true (dIn false) (gV (gVar 7)) (gV (gVar 5)))) (gVar 7)))))
  (gSet 4 (gV (gOrV (gVar 4) (gAndV (gOpV true (dEq false) (gV (gApp1 dLen (gV (gVar 6)))) (gV (gOp dSub (gApp1 dLen (gIxN 0 (gVar 1))) (gC (.int (1)))))) (gD (gCallP (f_law_within K ev) (gArV (gVar 3) (gArV (gVar 6) gArN))))))))))
  (gIfS (gNot (gTru (gV (gVar 4))))
  (gRet (gV (gC (.bl false))))
  gNext))))))
      (fun S => ∃ v1 v2 v3 v4 v5 v6, S = shS (sD sets) v1 v2 v3 v4 v5 v6 none) (fun S => S.length = 8) (fun k => !shellRow sets k) (.fzn (.bl false))
      (S := shS (sD sets) none none none none none none none) ⟨_, _, _, _, _, _, rfl⟩ (by
        rintro k hk S ⟨v1, v2, v3, v4, v5, v6, rfl⟩
        have hk' : k < sets.length := List.mem_range.mp hk
        have hin := loopFor_findM (c := fun k : Nat => D.int (k : Nat)) (L := List.range k) (ga := gaName 2) (gb := (gThen (gSet 3 (gV (gD (gLc true [(7 : Nat)] (gSeq true (gIxN 0 (gVar 1))) (gaName 7) (gBool (gOpV true (dIn false) (gV (gVar 7)) (gIxN 0 (gVar 2)))) (gVar 7)))))
  (gThen (gIfS (gBool (gOpV true (dEq false) (gV (gApp1 dLen (gV (gVar 3)))) (gV (gApp1 dLen (gIxN 0 (gVar 1))))))
  (gRet (gV (gC (.bl false))))
  gNext)
  (gThen (gSet 4 (gV (gC (.bl false))))
  (gThen (gFor (gSeq false (gSl true (gV (gVar 0)) none (some (gVar 1)))) (gaName 5)
  (gThen (gSet 6 (gV (gD (gLc true [(7 : Nat)] (gSeq true (gIxN 0 (gVar 1))) (gaName 7) (gBool (gOpV true (dIn false) (gV (gVar 7)) (gV (gVar 5)))) (gVar 7)))))
  (gSet 4 (gV (gOrV (gVar 4) (gAndV (gOpV true (dEq false) (gV (gApp1 dLen (gV (gVar 6)))) (gV (gOp dSub (gApp1 dLen (gIxN 0 (gVar 1))) (gC (.int (1)))))) (gD (gCallP (f_law_within K ev) (gArV (gVar 3) (gArV (gVar 6) gArN))))))))))
  (gIfS (gNot (gTru (gV (gVar 4))))
  (gRet (gV (gC (.bl false))))
  gNext))))))
          (fun S => ∃ v2 v3 v4 v5 v6, S = shS (sD sets) (oi k) v2 v3 v4 v5 v6 none) (fun S => S.length = 8) (fun p => !pairOk sets k (at' sets k) (at' sets p)) (.fzn (.bl false))
          (S := shS (sD sets) (oi k) v2 v3 v4 v5 v6 none) ⟨_, _, _, _, _, rfl⟩ (by
            rintro p hp S ⟨v2, v3, v4, v5, v6, rfl⟩
            have hp' : p < sets.length := Nat.lt_trans (List.mem_range.mp hp) hk'
            obtain ⟨w3, w4, w5, w6, hh⟩ := sh_pair K ev hl hk' hp' v3 v4 v5 v6
            refine ⟨shS (sD sets) (oi k) (oi p) v3 v4 v5 v6 none, shS (sD sets) (oi k) (oi p) w3 w4 w5 w6 none, rfl, ?_⟩
            rw [at'_eq hk', at'_eq hp']
            cases hb : pairOk sets k sets[k] sets[p] with
            | true =>
              rw [hb] at hh
              exact (if_neg (by simp)).mpr ⟨.inl hh, _, _, _, _, _, rfl⟩
            | false =>
              rw [hb] at hh
              exact (if_pos (by simp)).mpr ⟨hh, rfl⟩)
        obtain ⟨S', hin⟩ := hin
        have hr : gIt dRange1 (gCons (gVar 1) gNil) (shS (sD sets) (oi k) v2 v3 v4 v5 v6 none) = .ok ((List.range k).map fun i : Nat => D.int (i : Nat)) (shS (sD sets) (oi k) v2 v3 v4 v5 v6 none) := gIt_range (by omega) rfl
        refine ⟨shS (sD sets) (oi k) v2 v3 v4 v5 v6 none, S', rfl, ?_⟩
        have e9 : (!shellRow sets k) = (List.range k).any fun p => !pairOk sets k (at' sets k) (at' sets p) := by
          unfold shellRow; rw [List.all_eq_not_any_not, Bool.not_not]
        rw [e9]
        cases hp : (List.range k).any fun p => !pairOk sets k (at' sets k) (at' sets p) with
        | true =>
          rw [if_pos hp] at hin
          exact (if_pos rfl).mpr ⟨(gFor_eq hr).trans hin.1, hin.2⟩
        | false =>
          rw [if_neg (by simp [hp])] at hin
          obtain ⟨h1, v2, v3, v4, v5, v6, rfl⟩ := hin
          exact (if_neg (by simp)).mpr ⟨.inl ((gFor_eq hr).trans h1), _, _, _, _, _, _, rfl⟩)
    obtain ⟨S', hloop⟩ := hloop
    have hr : gIt dRange1 (gCons (gApp1 dLen (gV (gVar 0))) gNil) (shS (sD sets) none none none none none none none) = .ok ((List.range sets.length).map fun k : Nat => D.int (k : Nat)) (shS (sD sets) none none none none none none none) :=
      gIt_range (by omega) (gApp1_len (x := .fzn (sD sets)) rfl (dLen_sD sets))
    have e9 : lawShell sets = !((List.range sets.length).any fun k => !shellRow sets k) := by
      unfold lawShell; rw [List.all_eq_not_any_not]
    cases hp : (List.range sets.length).any fun k => !shellRow sets k with
    | true =>
      rw [if_pos hp] at hloop
      refine ⟨S', ?_, by omega⟩
      refine (gThen_rt ((gFor_eq hr).trans hloop.1)).trans ?_
      rw [e9, hp]; rfl
    | false =>
      rw [if_neg (by simp [hp])] at hloop
      obtain ⟨h1, v1, v2, v3, v4, v5, v6, rfl⟩ := hloop
      refine ⟨shS (sD sets) v1 v2 v3 v4 v5 v6 none, ?_, by simp [shS]⟩
      refine (gThen_nx ((gFor_eq hr).trans h1)).trans ?_
      rw [e9, hp]; rfl
  obtain ⟨S9, h9, hl9⟩ := main
  exact ⟨_, fnSem_rt h9 hl9⟩
end VL

set_option Elab.async false
set_option linter.all false
set_option autoImplicit false
set_option maxRecDepth 100000
namespace VL
open PySem PySem.Spec L2
open PyProof.Rows hiding St

theorem loopFor_pre2 {α : Type} (c : α → D) {ga : D → Sl → Option Sl} {gb : Sl → R Out} (I : List α → Sl → Prop) : ∀ {L pre : List α} {S : Sl}, I pre S → (∀ a p q S, pre ++ L = p ++ a :: q → I p S → ∃ S1 S2, ga (c a) S = some S1 ∧ (gb S1 = .ok .nx S2 ∨ gb S1 = .ok .ct S2) ∧ I (p ++ [a]) S2) → ∃ S', loopFor ga gb (L.map c) S = .ok .nx S' ∧ I (pre ++ L) S'
  | [], pre, S, h0, _ => ⟨S, rfl, by simpa using h0⟩
  | x :: xs, pre, S, h0, h => by
    obtain ⟨S1, S2, h1, h2, h3⟩ := h x pre xs S rfl h0
    obtain ⟨S', e1, e2⟩ := loopFor_pre2 c (ga := ga) (gb := gb) I (L := xs) h3 fun a p q S ha hI => h a p q S (by rw [← ha]; simp) hI
    refine ⟨S', ?_, by simpa using e2⟩
    have e3 : loopFor ga gb ((x :: xs).map c) S = loopFor ga gb (xs.map c) S2 := by
      rcases h2 with h3 | h3 <;> simp [loopFor, h1, h3]
    rw [e3]; exact e1
def rest (one : List Int) (i : Int) : List Int := one.filter fun o => !(o == i)
def isFresh (sets : List (List Int)) (k : Nat) (one : List Int) (i : Int) : Bool := (sets.take k).any fun e => subB (rest one i) e
def freshOf (sets : List (List Int)) (k : Nat) : List Int := (at' sets k).filter (isFresh sets k (at' sets k))
def freshes (sets : List (List Int)) : List (List Int) := (List.range sets.length).map (freshOf sets)
def frS (d : D) (v1 v2 v3 v4 v5 v6 v7 v8 : OV) : Sl := [⟨false, some (0, d)⟩, ⟨false, v1⟩, ⟨false, v2⟩, ⟨false, v3⟩, ⟨false, v4⟩, ⟨false, v5⟩, ⟨false, v6⟩, ⟨false, v7⟩, ⟨false, v8⟩]
abbrev od (d : D) : OV := some (0, d)
abbrev ol (l : List Int) : OV := some (1, lI l)
theorem rest_len (one : List Int) (i : Int) : (rest one i).length ≤ one.length := List.length_filter_le _ _
theorem fr_rest (sets : List (List Int)) (one : List Int) (h1 : one.length ≤ 1000) (i : Int) (v1 v2 v4 v6 v8 : OV) :
    gSet 6 (gV (gD (gLc true [(7 : Nat)] (gSeq true (gV (gVar 3))) (gaName 7) (gBool (gOpV true (dEq true) (gV (gVar 7)) (gV (gVar 5)))) (gVar 7)))) (frS (sD sets) v1 v2 (od (tI one)) v4 (od (.int i)) v6 none v8) =
      .ok .nx (frS (sD sets) v1 v2 (od (tI one)) v4 (od (.int i)) (od (lI (rest one i))) none v8) := by
  have hc := gLc_filterI (vs := [7]) (v := 7) (gi := gSeq true (gV (gVar 3))) (gt := gBool (gOpV true (dEq true) (gV (gVar 7)) (gV (gVar 5)))) (S := frS (sD sets) v1 v2 (od (tI one)) v4 (od (.int i)) v6 none v8) (l := one) (fun o => !(o == i))
    (by simp [gSeq, gV, gVar, frS, R.bind, Vl.fzn, itemsV, tI]) rfl (by omega) rfl (fun o ho => by
      simp [gBool, gOpV, gV, gVar, frS, Sl.wipe, wipeFrom, Sl.put, R.bind, Vl.fzn, dEq_int])
  exact (gSet_eq (gFz_eq hc) rfl).trans rfl
theorem fr_test {sets : List (List Int)} (hs : sets.length < 64) {k : Nat} (hk : k < sets.length) (one : List Int) (h1 : one.length ≤ 1000) (i : Int) (v1 v4 : OV) :
    gTru (gLc true [(8 : Nat)] (gSeq true (gSl true (gV (gVar 0)) none (some (gVar 2)))) (gaName 8) (gNot (gTru (gLc true [(7 : Nat)] (gSeq true (gV (gVar 6))) (gaName 7) (gBool (gOpV true (dIn true) (gV (gVar 7)) (gV (gVar 8)))) (gVar 7)))) (gVar 8)) (frS (sD sets) v1 (oi k) (od (tI one)) v4 (od (.int i)) (od (lI (rest one i))) none none) =
      .ok (isFresh sets k one i) (frS (sD sets) v1 (oi k) (od (tI one)) v4 (od (.int i)) (od (lI (rest one i))) none none) := by
  have hc := gLc_map (vs := [8]) (v := 8) (gi := gSeq true (gSl true (gV (gVar 0)) none (some (gVar 2)))) (gt := gNot (gTru (gLc true [(7 : Nat)] (gSeq true (gV (gVar 6))) (gaName 7) (gBool (gOpV true (dIn true) (gV (gVar 7)) (gV (gVar 8)))) (gVar 7)))) (ge := gVar 8)
    (S := frS (sD sets) v1 (oi k) (od (tI one)) v4 (od (.int i)) (od (lI (rest one i))) none none) (L := sets.take k) tI (fun e => subB (rest one i) e) tI
    (by simp [gSeq, gSl, gV, gVar, frS, R.bind, gPart, slV, sD, Vl.lev, cutD_take (xs := sets.map tI) (by simpa using Nat.le_of_lt hk), itemsV, List.map_take]) rfl (by rw [List.length_take]; omega) rfl (fun e he => by
      have hr := rest_len one i
      have hc := gLc_filterI (vs := [7]) (v := 7) (gi := gSeq true (gV (gVar 6))) (gt := gBool (gOpV true (dIn true) (gV (gVar 7)) (gV (gVar 8)))) (S := frS (sD sets) v1 (oi k) (od (tI one)) v4 (od (.int i)) (od (lI (rest one i))) none (od (tI e))) (l := rest one i) (fun o => !decide (o ∈ e))
        (by simp [gSeq, gV, gVar, frS, R.bind, Vl.fzn, itemsV, lI, Vl.lev]) rfl (by omega) rfl (fun o ho => by
          simp [gBool, gOpV, gV, gVar, frS, Sl.wipe, wipeFrom, Sl.put, R.bind, Vl.fzn, tI, dIn_tup])
      have e0 : Sl.put ((frS (sD sets) v1 (oi k) (od (tI one)) v4 (od (.int i)) (od (lI (rest one i))) none none).wipe [8]) 8 (some (0, tI e)) = frS (sD sets) v1 (oi k) (od (tI one)) v4 (od (.int i)) (od (lI (rest one i))) none (od (tI e)) := rfl
      rw [e0]
      have e : (((rest one i).filter fun o => !decide (o ∈ e)).isEmpty) = subB (rest one i) e := by
        apply Bool.eq_iff_iff.mpr
        simp [subB, List.isEmpty_iff, List.filter_eq_nil_iff]
      exact ⟨by simp [gNot, gTru, hc, R.bind, truD, e], fun _ => ⟨_, rfl⟩⟩)
  have e : (!(((sets.take k).filter fun e => subB (rest one i) e).map tI).isEmpty) = isFresh sets k one i := by
    apply Bool.eq_iff_iff.mpr
    simp [isFresh, List.isEmpty_iff, List.filter_eq_nil_iff]
  simp [gTru, hc, R.bind, truD, -List.isEmpty_map, e]
theorem apd_int {S : Sl} {i : Nat} {g : Sl → R D} {l : List Int} {x : Int} {b : Bool} (hS : S[i]? = some ⟨b, some (1, lI l)⟩) (hg : g S = .ok (.int x) S) (hl : l.length < 16777216) : gDrop (gV (gApd i (gV g))) S = .ok .nx (S.put i (ol (l ++ [x]))) := by
  simp only [lI] at hS
  simp [gDrop, gV, gApd, hS, hg, R.bind, Vl.fzn, hl, ol, lI]
theorem fr_item {sets : List (List Int)} (hs : sets.length < 64) {k : Nat} (hk : k < sets.length) (one : List Int) (h1 : one.length ≤ 1000) (i : Int) (acc : List Int) (ha : acc.length ≤ 1000) (v1 v6 : OV) :
    gThen (gSet 6 (gV (gD (gLc true [(7 : Nat)] (gSeq true (gV (gVar 3))) (gaName 7) (gBool (gOpV true (dEq true) (gV (gVar 7)) (gV (gVar 5)))) (gVar 7)))))
  (gIfS (gTru (gLc true [(8 : Nat)] (gSeq true (gSl true (gV (gVar 0)) none (some (gVar 2)))) (gaName 8) (gNot (gTru (gLc true [(7 : Nat)] (gSeq true (gV (gVar 6))) (gaName 7) (gBool (gOpV true (dIn true) (gV (gVar 7)) (gV (gVar 8)))) (gVar 7)))) (gVar 8)))
  (gDrop (gV (gApd 4 (gV (gVar 5)))))
  gNext) (frS (sD sets) v1 (oi k) (od (tI one)) (ol acc) (od (.int i)) v6 none none) =
    .ok .nx (frS (sD sets) v1 (oi k) (od (tI one)) (ol (acc ++ [i].filter (isFresh sets k one))) (od (.int i)) (od (lI (rest one i))) none none) := by
  refine (gThen_nx (fr_rest sets one h1 i v1 (oi k) (ol acc) v6 none)).trans ?_
  have ht := fr_test hs hk one h1 i v1 (ol acc)
  cases hb : isFresh sets k one i with
  | true =>
    rw [hb] at ht
    refine (gIfS_t ht).trans ((apd_int (S := frS (sD sets) v1 (oi k) (od (tI one)) (ol acc) (od (.int i)) (od (lI (rest one i))) none none) (i := 4) (g := gVar 5) (l := acc) (x := i) (b := false) rfl rfl (by omega)).trans ?_)
    simp [List.filter_cons, hb, frS, Sl.put]
  | false =>
    rw [hb] at ht
    refine (gIfS_f ht).trans ?_
    simp [List.filter_cons, hb, gNext]
/-- the row of one set -/
theorem fr_row {sets : List (List Int)} (hs : sets.length < 64) {k : Nat} (hk : k < sets.length) (one : List Int) (h1 : one.length ≤ 1000) (acc : List (List Int)) (ha : acc.length ≤ 1000) (v4 v5 v6 : OV) :
    ∃ v4' v5' v6', gThen (gSet 4 (gLst gNil))
  (gThen (gFor (gSeq false (gV (gVar 3))) (gaName 5)
  (gThen (gSet 6 (gV (gD (gLc true [(7 : Nat)] (gSeq true (gV (gVar 3))) (gaName 7) (gBool (gOpV true (dEq true) (gV (gVar 7)) (gV (gVar 5)))) (gVar 7)))))
  (gIfS (gTru (gLc true [(8 : Nat)] (gSeq true (gSl true (gV (gVar 0)) none (some (gVar 2)))) (gaName 8) (gNot (gTru (gLc true [(7 : Nat)] (gSeq true (gV (gVar 6))) (gaName 7) (gBool (gOpV true (dIn true) (gV (gVar 7)) (gV (gVar 8)))) (gVar 7)))) (gVar 8)))
  (gDrop (gV (gApd 4 (gV (gVar 5)))))
  gNext)))
  (gDrop (gV (gApd 1 (gV (gTupOf (gBor 4))))))) (frS (sD sets) (some (1, sD acc)) (oi k) (od (tI one)) v4 v5 v6 none none) =
    .ok .nx (frS (sD sets) (some (1, sD (acc ++ [one.filter (isFresh sets k one)]))) (oi k) (od (tI one)) v4' v5' v6' none none) := by
  obtain ⟨S', h2, v5', v6', rfl⟩ := loopFor_pre2 (c := D.int) (ga := gaName 5) (gb := gThen (gSet 6 (gV (gD (gLc true [(7 : Nat)] (gSeq true (gV (gVar 3))) (gaName 7) (gBool (gOpV true (dEq true) (gV (gVar 7)) (gV (gVar 5)))) (gVar 7)))))
  (gIfS (gTru (gLc true [(8 : Nat)] (gSeq true (gSl true (gV (gVar 0)) none (some (gVar 2)))) (gaName 8) (gNot (gTru (gLc true [(7 : Nat)] (gSeq true (gV (gVar 6))) (gaName 7) (gBool (gOpV true (dIn true) (gV (gVar 7)) (gV (gVar 8)))) (gVar 7)))) (gVar 8)))
  (gDrop (gV (gApd 4 (gV (gVar 5)))))
  gNext))
    (fun p S => ∃ v5 v6, S = frS (sD sets) (some (1, sD acc)) (oi k) (od (tI one)) (ol (p.filter (isFresh sets k one))) v5 v6 none none)
    (L := one) (pre := []) (S := frS (sD sets) (some (1, sD acc)) (oi k) (od (tI one)) (ol []) v5 v6 none none) ⟨v5, v6, rfl⟩ (by
      rintro i p q S hi ⟨v5, v6, rfl⟩
      have hpl : (p.filter (isFresh sets k one)).length ≤ 1000 := by
        have h3 := congrArg List.length hi
        have h4 : (p.filter (isFresh sets k one)).length ≤ p.length := List.length_filter_le _ _
        simp at h3; omega
      refine ⟨frS (sD sets) (some (1, sD acc)) (oi k) (od (tI one)) (ol (p.filter (isFresh sets k one))) (od (.int i)) v6 none none, _, rfl, .inl (fr_item hs hk one h1 i _ hpl _ v6), od (.int i), od (lI (rest one i)), ?_⟩
      rw [List.filter_append])
  refine ⟨ol (one.filter (isFresh sets k one)), v5', v6', ?_⟩
  refine (gThen_nx (S1 := frS (sD sets) (some (1, sD acc)) (oi k) (od (tI one)) (ol []) v5 v6 none none) rfl).trans ?_
  refine (gThen_nx ((gFor_eq (xs := one.map D.int) rfl).trans h2)).trans ?_
  have ha' : acc.length < 16777216 := by omega
  simp [gDrop, gV, gApd, frS, gTupOf, gBor, lI, R.bind, Vl.lev, Vl.fzn, sD, Sl.put, ha', tI]
end VL

set_option Elab.async false
set_option linter.all false
set_option autoImplicit false
set_option maxRecDepth 100000
namespace VL
open PySem PySem.Spec L2
open PyProof.Rows hiding St

theorem range_pre {n p a : Nat} {l q : List Nat} (h : List.range n = l ++ a :: q) : a = l.length ∧ l = List.range l.length ∧ l.length < n := by
  have h1 := congrArg List.length h
  simp at h1
  have h2 : (List.range n)[l.length]? = some a := by rw [h]; simp
  rw [List.getElem?_range (by omega)] at h2
  have h3 : (List.range n).take l.length = l := by rw [h]; simp
  refine ⟨by simpa using h2.symm, ?_, by omega⟩
  have h4 : (List.range n).take l.length = List.range l.length := by rw [List.take_range, Nat.min_eq_left (by omega)]
  rw [← h4, h3]
theorem fresh_err (K : PySem.W.Frag) (ev : Ev) {sets : List (List Int)} (hs : sets.length < 64) (hl : ∀ l ∈ sets, l.length ≤ 1000) (hb : isShell sets = false) :
    ∃ T', f_fresh_parts K ev [⟨false, some (0, sD sets)⟩] = .err ev.cInvalidOrder (some ("what", .str "shelling")) T' := by
  obtain ⟨T', hi⟩ := is_ok K ev hs hl
  have hcall : gCallP (f_is_shelling K ev) (gArV (gVar 0) gArN) (frS (sD sets) none none none none none none none none) = .ok (.fzn (.bl (isShell sets))) (frS (sD sets) none none none none none none none none) :=
    gCallP_eq (as := [.v (sD sets)]) rfl rfl rfl hi
  have hc : gNot (gTru (gCallP (f_is_shelling K ev) (gArV (gVar 0) gArN))) (frS (sD sets) none none none none none none none none) = .ok true (frS (sD sets) none none none none none none none none) := by
    simp [gNot, gTru, hcall, R.bind, Vl.fzn, truD, hb]
  have main : g_fresh_parts K ev (frS (sD sets) none none none none none none none none) = .err ev.cInvalidOrder (some ("what", .str "shelling")) (frS (sD sets) none none none none none none none none) := by
    unfold g_fresh_parts
    exact gThen_err ((gIfS_t hc).trans rfl)
  exact ⟨_, fnSem_err main (by simp [frS])⟩
theorem fresh_ok (K : PySem.W.Frag) (ev : Ev) {sets : List (List Int)} (hs : sets.length < 64) (hl : ∀ l ∈ sets, l.length ≤ 1000) (hb : isShell sets = true) :
    ∃ T', f_fresh_parts K ev [⟨false, some (0, sD sets)⟩] = .ok ⟨false, 1, sD (freshes sets)⟩ T' := by
  obtain ⟨T', hi⟩ := is_ok K ev hs hl
  have hcall : gCallP (f_is_shelling K ev) (gArV (gVar 0) gArN) (frS (sD sets) none none none none none none none none) = .ok (.fzn (.bl (isShell sets))) (frS (sD sets) none none none none none none none none) :=
    gCallP_eq (as := [.v (sD sets)]) rfl rfl rfl hi
  have hc : gNot (gTru (gCallP (f_is_shelling K ev) (gArV (gVar 0) gArN))) (frS (sD sets) none none none none none none none none) = .ok false (frS (sD sets) none none none none none none none none) := by
    simp [gNot, gTru, hcall, R.bind, Vl.fzn, truD, hb]
  have main : ∃ S', g_fresh_parts K ev (frS (sD sets) none none none none none none none none) = .ok (.rt ⟨false, 1, sD (freshes sets)⟩) S' ∧ 1 ≤ S'.length := by
    unfold g_fresh_parts
    obtain ⟨S', h2, v2, v3, v4, v5, v6, rfl⟩ := loopFor_pre2 (c := fun k : Nat => D.tup [.int (k : Nat), (sets.map tI).getD k .non]) (ga := gaTup 2 (gaCons (gaName 2) (gaCons (gaName 3) gaNil))) (gb := gThen (gSet 4 (gLst gNil))
  (gThen (gFor (gSeq false (gV (gVar 3))) (gaName 5)
  (gThen (gSet 6 (gV (gD (gLc true [(7 : Nat)] (gSeq true (gV (gVar 3))) (gaName 7) (gBool (gOpV true (dEq true) (gV (gVar 7)) (gV (gVar 5)))) (gVar 7)))))
  (gIfS (gTru (gLc true [(8 : Nat)] (gSeq true (gSl true (gV (gVar 0)) none (some (gVar 2)))) (gaName 8) (gNot (gTru (gLc true [(7 : Nat)] (gSeq true (gV (gVar 6))) (gaName 7) (gBool (gOpV true (dIn true) (gV (gVar 7)) (gV (gVar 8)))) (gVar 7)))) (gVar 8)))
  (gDrop (gV (gApd 4 (gV (gVar 5)))))
  gNext)))
  (gDrop (gV (gApd 1 (gV (gTupOf (gBor 4))))))))
      (fun p S => ∃ v2 v3 v4 v5 v6, S = frS (sD sets) (some (1, sD (p.map (freshOf sets)))) v2 v3 v4 v5 v6 none none)
      (L := List.range sets.length) (pre := []) (S := frS (sD sets) (some (1, sD [])) none none none none none none none) ⟨none, none, none, none, none, rfl⟩ (by
        rintro k p q S hk ⟨v2, v3, v4, v5, v6, rfl⟩
        obtain ⟨rfl, _, hk'⟩ := range_pre (p := 0) (by simpa using hk)
        have h1 := hl _ (List.getElem_mem hk')
        obtain ⟨w4, w5, w6, hh⟩ := fr_row hs hk' sets[p.length] h1 (p.map (freshOf sets)) (by simp; omega) v4 v5 v6
        refine ⟨frS (sD sets) (some (1, sD (p.map (freshOf sets)))) (oi p.length) (od (tI sets[p.length])) v4 v5 v6 none none, _, ?_, .inl hh, oi p.length, od (tI sets[p.length]), w4, w5, w6, ?_⟩
        · simp [gaTup, gaCons, gaName, gaNil, frS, Sl.put, hk']
        · simp [freshOf, at'_eq hk'])
    refine ⟨(frS (sD sets) none v2 v3 v4 v5 v6 none none), ?_, by simp [frS]⟩
    refine (gThen_nx ((gIfS_f hc).trans rfl)).trans ?_
    refine (gThen_nx (S1 := frS (sD sets) (some (1, sD [])) none none none none none none none) rfl).trans ?_
    have hen : gEnum false (gV (gVar 0)) (frS (sD sets) (some (1, sD [])) none none none none none none none) = .ok ((List.range sets.length).map fun k : Nat => D.tup [.int (k : Nat), (sets.map tI).getD k .non]) (frS (sD sets) (some (1, sD [])) none none none none none none none) := by
      simp [gEnum, gV, gVar, frS, R.bind, Vl.fzn, listV, sD, Vl.lev, enumD]
    exact (gThen_nx ((gFor_eq hen).trans h2)).trans rfl
  obtain ⟨S9, h9, hl9⟩ := main
  exact ⟨_, fnSem_rt h9 hl9⟩
end VL

set_option Elab.async false
set_option linter.all false
set_option autoImplicit false
set_option maxRecDepth 100000
namespace VL
open PySem PySem.Spec L2
open PyProof.Rows hiding St

def lfS (d : D) (v1 v2 v3 v4 v5 v6 v7 : OV) : Sl := [⟨false, some (0, d)⟩, ⟨false, v1⟩, ⟨false, v2⟩, ⟨false, v3⟩, ⟨false, v4⟩, ⟨false, v5⟩, ⟨false, v6⟩, ⟨false, v7⟩]
theorem lfIx {sets : List (List Int)} {k : Nat} (hk : k < sets.length) (v1 v3 v4 v5 v6 v7 : OV) : gIxN 0 (gVar 2) (lfS (sD sets) v1 (oi k) v3 v4 v5 v6 v7) = .ok (.fzn (tI sets[k])) (lfS (sD sets) v1 (oi k) v3 v4 v5 v6 v7) := by
  simp [gIxN, gVar, lfS, R.bind, ix_sD hk, Vl.fzn]
theorem lf_rest {sets : List (List Int)} {k : Nat} (hk : k < sets.length) (h1 : sets[k].length ≤ 1000) (i : Int) (v1 v3 v5 v7 : OV) :
    gSet 5 (gV (gD (gLc true [(6 : Nat)] (gSeq true (gIxN 0 (gVar 2))) (gaName 6) (gBool (gOpV true (dEq true) (gV (gVar 6)) (gV (gVar 4)))) (gVar 6)))) (lfS (sD sets) v1 (oi k) v3 (od (.int i)) v5 none v7) =
      .ok .nx (lfS (sD sets) v1 (oi k) v3 (od (.int i)) (od (lI (rest sets[k] i))) none v7) := by
  have hc := gLc_filterI (vs := [6]) (v := 6) (gi := gSeq true (gIxN 0 (gVar 2))) (gt := gBool (gOpV true (dEq true) (gV (gVar 6)) (gV (gVar 4)))) (S := lfS (sD sets) v1 (oi k) v3 (od (.int i)) v5 none v7) (l := sets[k]) (fun o => !(o == i))
    (by simp [gSeq, lfIx hk, R.bind, Vl.fzn, itemsV, tI]) rfl (by omega) rfl (fun o ho => by
      simp [gBool, gOpV, gV, gVar, lfS, Sl.wipe, wipeFrom, Sl.put, R.bind, Vl.fzn, dEq_int])
  exact (gSet_eq (gFz_eq hc) rfl).trans rfl
theorem dGt_int (a b : Int) : dGt (.int a) (.int b) = some (.bl (decide (b < a))) := by first | rfl | simp [dGt]
theorem lf_test (K : PySem.W.Frag) (ev : Ev) {sets : List (List Int)} (hs : sets.length < 64) {k : Nat} (hk : k < sets.length) (one : List Int) (h1 : one.length ≤ 1000) (i : Int) (v1 v3 : OV) :
    gBool (gOp dGt (gApp1 dLen (gLc true [(7 : Nat)] (gSeq true (gSl true (gV (gVar 0)) none (some (gVar 2)))) (gaName 7) (gTru (gCallP (f_law_within K ev) (gArV (gVar 5) (gArV (gVar 7) gArN)))) (gVar 7))) (gC (.int (0)))) (lfS (sD sets) v1 (oi k) v3 (od (.int i)) (od (lI (rest one i))) none none) =
      .ok (isFresh sets k one i) (lfS (sD sets) v1 (oi k) v3 (od (.int i)) (od (lI (rest one i))) none none) := by
  have hc := gLc_map (vs := [7]) (v := 7) (gi := gSeq true (gSl true (gV (gVar 0)) none (some (gVar 2)))) (gt := gTru (gCallP (f_law_within K ev) (gArV (gVar 5) (gArV (gVar 7) gArN)))) (ge := gVar 7)
    (S := lfS (sD sets) v1 (oi k) v3 (od (.int i)) (od (lI (rest one i))) none none) (L := sets.take k) tI (fun e => subB (rest one i) e) tI
    (by simp [gSeq, gSl, gV, gVar, lfS, R.bind, gPart, slV, sD, Vl.lev, cutD_take (xs := sets.map tI) (by simpa using Nat.le_of_lt hk), itemsV, List.map_take]) rfl (by rw [List.length_take]; omega) rfl (fun e he => by
      have hr := rest_len one i
      have hw := within_ok K ev (d1 := lI (rest one i)) (d2 := tI e) (.inr rfl) (.inl rfl) (by omega)
      have e0 : Sl.put ((lfS (sD sets) v1 (oi k) v3 (od (.int i)) (od (lI (rest one i))) none none).wipe [7]) 7 (some (0, tI e)) = lfS (sD sets) v1 (oi k) v3 (od (.int i)) (od (lI (rest one i))) none (od (tI e)) := rfl
      rw [e0]
      have hcall : gCallP (f_law_within K ev) (gArV (gVar 5) (gArV (gVar 7) gArN)) (lfS (sD sets) v1 (oi k) v3 (od (.int i)) (od (lI (rest one i))) none (od (tI e))) = .ok (.fzn (.bl (subB (rest one i) e))) (lfS (sD sets) v1 (oi k) v3 (od (.int i)) (od (lI (rest one i))) none (od (tI e))) :=
        gCallP_eq (as := [.v (lI (rest one i)), .v (tI e)]) rfl rfl rfl hw
      exact ⟨by simp [gTru, hcall, R.bind, truD, Vl.fzn], fun _ => ⟨_, rfl⟩⟩)
  have e : decide ((0 : Int) < (((sets.take k).filter fun e => subB (rest one i) e).length : Int)) = isFresh sets k one i := by
    apply Bool.eq_iff_iff.mpr
    have h0 : ((0 : Int) < (((sets.take k).filter fun e => subB (rest one i) e).length : Int)) ↔ 0 < ((sets.take k).filter fun e => subB (rest one i) e).length := by omega
    rw [decide_eq_true_eq, h0, List.length_pos_iff_exists_mem]
    simp [isFresh]
  have hlen : dLen (D.lst (((sets.take k).filter fun e => subB (rest one i) e).map tI)) = some (.int (((sets.take k).filter fun e => subB (rest one i) e).length : Nat)) := by simp [dLen_lst]
  have ha := gApp1_len hc hlen
  unfold gBool gOp gC
  simp only [ha, R.bind, dGt_int, e]
theorem lf_item (K : PySem.W.Frag) (ev : Ev) {sets : List (List Int)} (hs : sets.length < 64) {k : Nat} (hk : k < sets.length) (h1 : sets[k].length ≤ 1000) (i : Int) (acc : List Int) (ha : acc.length ≤ 1000) (v1 v5 : OV) :
    gThen (gSet 5 (gV (gD (gLc true [(6 : Nat)] (gSeq true (gIxN 0 (gVar 2))) (gaName 6) (gBool (gOpV true (dEq true) (gV (gVar 6)) (gV (gVar 4)))) (gVar 6)))))
  (gIfS (gBool (gOp dGt (gApp1 dLen (gLc true [(7 : Nat)] (gSeq true (gSl true (gV (gVar 0)) none (some (gVar 2)))) (gaName 7) (gTru (gCallP (f_law_within K ev) (gArV (gVar 5) (gArV (gVar 7) gArN)))) (gVar 7))) (gC (.int (0)))))
  (gDrop (gV (gApd 3 (gV (gVar 4)))))
  gNext) (lfS (sD sets) v1 (oi k) (ol acc) (od (.int i)) v5 none none) =
    .ok .nx (lfS (sD sets) v1 (oi k) (ol (acc ++ [i].filter (isFresh sets k sets[k]))) (od (.int i)) (od (lI (rest sets[k] i))) none none) := by
  refine (gThen_nx (lf_rest hk h1 i v1 (ol acc) v5 none)).trans ?_
  have ht := lf_test K ev hs hk sets[k] h1 i v1 (ol acc)
  cases hb : isFresh sets k sets[k] i with
  | true =>
    rw [hb] at ht
    refine (gIfS_t ht).trans ((apd_int (S := lfS (sD sets) v1 (oi k) (ol acc) (od (.int i)) (od (lI (rest sets[k] i))) none none) (i := 3) (g := gVar 4) (l := acc) (x := i) (b := false) rfl rfl (by omega)).trans ?_)
    simp [List.filter_cons, hb, lfS, Sl.put]
  | false =>
    rw [hb] at ht
    refine (gIfS_f ht).trans ?_
    simp [List.filter_cons, hb, gNext]
theorem lf_row (K : PySem.W.Frag) (ev : Ev) {sets : List (List Int)} (hs : sets.length < 64) {k : Nat} (hk : k < sets.length) (h1 : sets[k].length ≤ 1000) (acc : List (List Int)) (ha : acc.length ≤ 1000) (v3 v4 v5 : OV) :
    ∃ v3' v4' v5', gThen (gSet 3 (gLst gNil))
  (gThen (gFor (gSeq false (gIxN 0 (gVar 2))) (gaName 4)
  (gThen (gSet 5 (gV (gD (gLc true [(6 : Nat)] (gSeq true (gIxN 0 (gVar 2))) (gaName 6) (gBool (gOpV true (dEq true) (gV (gVar 6)) (gV (gVar 4)))) (gVar 6)))))
  (gIfS (gBool (gOp dGt (gApp1 dLen (gLc true [(7 : Nat)] (gSeq true (gSl true (gV (gVar 0)) none (some (gVar 2)))) (gaName 7) (gTru (gCallP (f_law_within K ev) (gArV (gVar 5) (gArV (gVar 7) gArN)))) (gVar 7))) (gC (.int (0)))))
  (gDrop (gV (gApd 3 (gV (gVar 4)))))
  gNext)))
  (gDrop (gV (gApd 1 (gV (gTupOf (gBor 3))))))) (lfS (sD sets) (some (1, sD acc)) (oi k) v3 v4 v5 none none) =
    .ok .nx (lfS (sD sets) (some (1, sD (acc ++ [sets[k].filter (isFresh sets k sets[k])]))) (oi k) v3' v4' v5' none none) := by
  obtain ⟨S', h2, v4', v5', rfl⟩ := loopFor_pre2 (c := D.int) (ga := gaName 4) (gb := gThen (gSet 5 (gV (gD (gLc true [(6 : Nat)] (gSeq true (gIxN 0 (gVar 2))) (gaName 6) (gBool (gOpV true (dEq true) (gV (gVar 6)) (gV (gVar 4)))) (gVar 6)))))
  (gIfS (gBool (gOp dGt (gApp1 dLen (gLc true [(7 : Nat)] (gSeq true (gSl true (gV (gVar 0)) none (some (gVar 2)))) (gaName 7) (gTru (gCallP (f_law_within K ev) (gArV (gVar 5) (gArV (gVar 7) gArN)))) (gVar 7))) (gC (.int (0)))))
  (gDrop (gV (gApd 3 (gV (gVar 4)))))
  gNext))
    (fun p S => ∃ v4 v5, S = lfS (sD sets) (some (1, sD acc)) (oi k) (ol (p.filter (isFresh sets k sets[k]))) v4 v5 none none)
    (L := sets[k]) (pre := []) (S := lfS (sD sets) (some (1, sD acc)) (oi k) (ol []) v4 v5 none none) ⟨v4, v5, rfl⟩ (by
      rintro i p q S hi ⟨v4, v5, rfl⟩
      have hpl : (p.filter (isFresh sets k sets[k])).length ≤ 1000 := by
        have h3 := congrArg List.length hi
        have h4 : (p.filter (isFresh sets k sets[k])).length ≤ p.length := List.length_filter_le _ _
        simp at h3; omega
      refine ⟨lfS (sD sets) (some (1, sD acc)) (oi k) (ol (p.filter (isFresh sets k sets[k]))) (od (.int i)) v5 none none, _, rfl, .inl (lf_item K ev hs hk h1 i _ hpl _ v5), od (.int i), od (lI (rest sets[k] i)), ?_⟩
      rw [List.filter_append])
  refine ⟨ol (sets[k].filter (isFresh sets k sets[k])), v4', v5', ?_⟩
  refine (gThen_nx (S1 := lfS (sD sets) (some (1, sD acc)) (oi k) (ol []) v4 v5 none none) rfl).trans ?_
  have hi : gSeq false (gIxN 0 (gVar 2)) (lfS (sD sets) (some (1, sD acc)) (oi k) (ol []) v4 v5 none none) = .ok (sets[k].map D.int) (lfS (sD sets) (some (1, sD acc)) (oi k) (ol []) v4 v5 none none) := by
    simp [gSeq, lfIx hk, R.bind, Vl.fzn, itemsV, tI]
  refine (gThen_nx ((gFor_eq hi).trans h2)).trans ?_
  have ha' : acc.length < 16777216 := by omega
  simp [gDrop, gV, gApd, lfS, gTupOf, gBor, lI, R.bind, Vl.lev, Vl.fzn, sD, Sl.put, ha', tI]
theorem lawfresh_ok (K : PySem.W.Frag) (ev : Ev) {sets : List (List Int)} (hs : sets.length < 64) (hl : ∀ l ∈ sets, l.length ≤ 1000) :
    ∃ T', f_law_fresh K ev [⟨false, some (0, sD sets)⟩] = .ok ⟨false, 1, sD (freshes sets)⟩ T' := by
  have main : ∃ S', g_law_fresh K ev (lfS (sD sets) none none none none none none none) = .ok (.rt ⟨false, 1, sD (freshes sets)⟩) S' ∧ 1 ≤ S'.length := by
    unfold g_law_fresh
    obtain ⟨S', h2, v2, v3, v4, v5, rfl⟩ := loopFor_pre2 (c := fun k : Nat => D.int (k : Nat)) (ga := gaName 2) (gb := gThen (gSet 3 (gLst gNil))
  (gThen (gFor (gSeq false (gIxN 0 (gVar 2))) (gaName 4)
  (gThen (gSet 5 (gV (gD (gLc true [(6 : Nat)] (gSeq true (gIxN 0 (gVar 2))) (gaName 6) (gBool (gOpV true (dEq true) (gV (gVar 6)) (gV (gVar 4)))) (gVar 6)))))
  (gIfS (gBool (gOp dGt (gApp1 dLen (gLc true [(7 : Nat)] (gSeq true (gSl true (gV (gVar 0)) none (some (gVar 2)))) (gaName 7) (gTru (gCallP (f_law_within K ev) (gArV (gVar 5) (gArV (gVar 7) gArN)))) (gVar 7))) (gC (.int (0)))))
  (gDrop (gV (gApd 3 (gV (gVar 4)))))
  gNext)))
  (gDrop (gV (gApd 1 (gV (gTupOf (gBor 3))))))))
      (fun p S => ∃ v2 v3 v4 v5, S = lfS (sD sets) (some (1, sD (p.map (freshOf sets)))) v2 v3 v4 v5 none none)
      (L := List.range sets.length) (pre := []) (S := lfS (sD sets) (some (1, sD [])) none none none none none none) ⟨none, none, none, none, rfl⟩ (by
        rintro k p q S hk ⟨v2, v3, v4, v5, rfl⟩
        obtain ⟨rfl, _, hk'⟩ := range_pre (p := 0) (by simpa using hk)
        have h1 := hl _ (List.getElem_mem hk')
        obtain ⟨w3, w4, w5, hh⟩ := lf_row K ev hs hk' h1 (p.map (freshOf sets)) (by simp; omega) v3 v4 v5
        refine ⟨lfS (sD sets) (some (1, sD (p.map (freshOf sets)))) (oi p.length) v3 v4 v5 none none, _, rfl, .inl hh, oi p.length, w3, w4, w5, ?_⟩
        simp [freshOf, at'_eq hk'])
    refine ⟨(lfS (sD sets) none v2 v3 v4 v5 none none), ?_, by simp [lfS]⟩
    refine (gThen_nx (S1 := lfS (sD sets) (some (1, sD [])) none none none none none none) rfl).trans ?_
    have hr : gIt dRange1 (gCons (gApp1 dLen (gV (gVar 0))) gNil) (lfS (sD sets) (some (1, sD [])) none none none none none none) = .ok ((List.range sets.length).map fun k : Nat => D.int (k : Nat)) (lfS (sD sets) (some (1, sD [])) none none none none none none) :=
      gIt_range (by omega) (gApp1_len (x := .fzn (sD sets)) rfl (dLen_sD sets))
    exact (gThen_nx ((gFor_eq hr).trans h2)).trans rfl
  obtain ⟨S9, h9, hl9⟩ := main
  exact ⟨_, fnSem_rt h9 hl9⟩
end VL

set_option Elab.async false
set_option linter.all false
set_option autoImplicit false
set_option maxRecDepth 100000
namespace VL
open PySem PySem.Spec L2
open PyProof.Rows hiding St

def alS (d : D) (v1 v2 v3 v4 v5 : OV) : Sl := [⟨false, some (0, d)⟩, ⟨false, v1⟩, ⟨false, v2⟩, ⟨false, v3⟩, ⟨false, v4⟩, ⟨false, v5⟩]
abbrev ov (w : Option D) : OV := w.map fun d => (0, d)
theorem al_item (d : D) (Q : List (List Int)) (hQ : Q.length ≤ 100000) (hr : ∀ r ∈ Q, r.length ≤ 1000) (i : Int) (v1 v2 : OV) (w5 : Option D) :
    gSet 3 (gV (gD (gNew2 true dCat (gV (gVar 3)) (gLc true [(5 : Nat)] (gSeq true (gV (gVar 3))) (gaName 5) gYes (gCatT (gVar 5) (gTup (gCons (gVar 4) gNil))))))) (alS d v1 v2 (od (sD Q)) (od (.int i)) (ov w5)) =
      .ok .nx (alS d v1 v2 (od (sD (Q ++ Q.map (· ++ [i])))) (od (.int i)) (ov w5)) := by
  have hc := gLc_map (vs := [5]) (v := 5) (gi := gSeq true (gV (gVar 3))) (gt := gYes) (ge := gCatT (gVar 5) (gTup (gCons (gVar 4) gNil))) (S := alS d v1 v2 (od (sD Q)) (od (.int i)) (ov w5)) (L := Q) tI (fun _ => true) (fun r => tI (r ++ [i]))
    (by simp [gSeq, gV, gVar, alS, R.bind, Vl.fzn, items_sD0]) (by cases w5 <;> rfl) (by omega) rfl (fun r h => ⟨rfl, fun _ => ⟨_, by
      have h1 := hr r h
      have h2 : r.length + 1 ≤ 16777216 := by omega
      simp [gCatT, gTup, gCons, gNil, gVar, alS, Sl.wipe, wipeFrom, Sl.put, R.bind, lineOk, tI, h2]; rfl⟩⟩)
  rw [filter_all] at hc
  have e : D.lst (Q.map fun r => tI (r ++ [i])) = sD (Q.map (· ++ [i])) := by simp [sD, List.map_map]
  rw [e] at hc
  have hlen : Q.length + Q.length ≤ 16777216 := by omega
  have hcat : dCat (sD Q) (sD (Q.map (· ++ [i]))) = some ((Q ++ Q.map (· ++ [i])).map tI) := by
    simp only [sD, dCat, List.map_append]
    simp [lineOk, hlen]
  have hv : gV (gVar 3) (alS d v1 v2 (od (sD Q)) (od (.int i)) (ov w5)) = .ok (.fzn (sD Q)) (alS d v1 v2 (od (sD Q)) (od (.int i)) (ov w5)) := rfl
  have hn : gNew2 true dCat (gV (gVar 3)) (gLc true [(5 : Nat)] (gSeq true (gV (gVar 3))) (gaName 5) gYes (gCatT (gVar 5) (gTup (gCons (gVar 4) gNil)))) (alS d v1 v2 (od (sD Q)) (od (.int i)) (ov w5)) = .ok ⟨false, 1, sD (Q ++ Q.map (· ++ [i]))⟩ (alS d v1 v2 (od (sD Q)) (od (.int i)) (ov w5)) := by
    simp only [gNew2, hv, hc, R.bind, Vl.fzn, Vl.lev, hcat]
    simp [sD]
  exact (gSet_eq (gFz_eq hn) rfl).trans rfl
theorem keysD_ints : ∀ r : List Int, keysD (r.map D.int) = some (r.map Sum.inl)
  | [] => rfl
  | x :: r => by simp [keysD, keyD, keysD_ints r]
def ik (T : List (List Int)) : List (List Key) := T.map fun r => r.map Sum.inl
theorem al_put (d : D) (T : List (List Int)) (hT : T.length < 16777216) (ds : List D) (r : List Int) (v2 v3 v4 : OV) :
    ∃ T' ds', (T' = T ∨ T' = T ++ [r]) ∧ gDPut 1 (gC (.bl true)) (gVar 5) (alS d (some (1, .dT (ik T) ds)) v2 v3 v4 (od (tI r))) = .ok .nx (alS d (some (1, .dT (ik T') ds')) v2 v3 v4 (od (tI r))) := by
  have hl : (ik T).length < 16777216 := by simpa [ik] using hT
  have h0 : gDPut 1 (gC (.bl true)) (gVar 5) (alS d (some (1, .dT (ik T) ds)) v2 v3 v4 (od (tI r))) = .ok .nx (alS d (some (1, .dT (putX (ik T) ds (r.map Sum.inl) (.bl true)).1 (putX (ik T) ds (r.map Sum.inl) (.bl true)).2)) v2 v3 v4 (od (tI r))) := by
    have hp : dPut (.dT (ik T) ds) (tI r) (.bl true) = some (.dT (putX (ik T) ds (r.map Sum.inl) (.bl true)).1 (putX (ik T) ds (r.map Sum.inl) (.bl true)).2) := by
      simp [dPut, tI, keysD_ints, hl]
    simp [gDPut, gC, gVar, alS, R.bind, hp, Sl.put]
  by_cases hm : r.map Sum.inl ∈ ik T
  · refine ⟨T, (putX (ik T) ds (r.map Sum.inl) (.bl true)).2, .inl rfl, h0.trans ?_⟩
    unfold putX; rw [if_pos hm]
  · refine ⟨T ++ [r], (putX (ik T) ds (r.map Sum.inl) (.bl true)).2, .inr rfl, h0.trans ?_⟩
    have e : ik (T ++ [r]) = ik T ++ [r.map Sum.inl] := by simp [ik]
    rw [e]; unfold putX; rw [if_neg hm]
theorem al_puts (d : D) (P : List Int → Prop) (Q : List (List Int)) (hQ : ∀ r ∈ Q, P r) (T : List (List Int)) (hP : ∀ r ∈ T, P r) (hT : T.length + Q.length < 16777216) (ds : List D) (v2 v4 : OV) (w5 : Option D) :
    ∃ T' ds' w5', T'.length ≤ T.length + Q.length ∧ (∀ r ∈ T', P r) ∧ gFor (gSeq false (gV (gVar 3))) (gaName 5) (gDPut 1 (gC (.bl true)) (gVar 5)) (alS d (some (1, .dT (ik T) ds)) v2 (od (sD Q)) v4 (ov w5)) = .ok .nx (alS d (some (1, .dT (ik T') ds')) v2 (od (sD Q)) v4 (ov w5')) := by
  obtain ⟨S', h1, T', ds', w5', h2, h3, rfl⟩ := loopFor_pre2 (c := tI) (ga := gaName 5) (gb := gDPut 1 (gC (.bl true)) (gVar 5))
    (fun p S => ∃ T' ds' w5, T'.length ≤ T.length + p.length ∧ (∀ r ∈ T', P r) ∧ S = alS d (some (1, .dT (ik T') ds')) v2 (od (sD Q)) v4 (ov w5))
    (L := Q) (pre := []) (S := alS d (some (1, .dT (ik T) ds)) v2 (od (sD Q)) v4 (ov w5)) ⟨T, ds, w5, by simp, hP, rfl⟩ (by
      rintro r p q S hq ⟨T1, ds1, w5, h2, h3, rfl⟩
      have hl := congrArg List.length hq
      simp at hl
      obtain ⟨T2, ds2, h4, h5⟩ := al_put d T1 (by omega) ds1 r v2 (od (sD Q)) v4
      refine ⟨alS d (some (1, .dT (ik T1) ds1)) v2 (od (sD Q)) v4 (od (tI r)), _, rfl, .inl h5, T2, ds2, some (tI r), ?_, ?_, rfl⟩
      · rcases h4 with rfl | rfl <;> simp <;> omega
      · have hr : r ∈ Q := by have : Q = p ++ r :: q := by simpa using hq
                              rw [this]; simp
        rcases h4 with rfl | rfl
        · exact h3
        · intro x hx
          rcases List.mem_append.mp hx with h | h
          · exact h3 x h
          · rw [List.mem_singleton.mp h]; exact hQ r hr)
  exact ⟨T', ds', w5', by simpa using h2, h3, (gFor_eq (xs := Q.map tI) rfl).trans h1⟩
end VL

set_option Elab.async false
set_option linter.all false
set_option autoImplicit false
set_option maxRecDepth 100000
namespace VL
open PySem PySem.Spec L2
open PyProof.Rows hiding St

/-- the rows that the items of one set give -/
theorem al_rows (d : D) (one : List Int) (h1 : one.length ≤ 10) (v1 : OV) (w4 w5 : Option D) :
    ∃ Q w4', Q.length ≤ 1024 ∧ (∀ r ∈ Q, r.length ≤ 10 ∧ ∀ x ∈ r, x ∈ one) ∧ gFor (gSeq false (gNew1 dSorted (gV (gVar 2)))) (gaName 4)
  (gSet 3 (gV (gD (gNew2 true dCat (gV (gVar 3)) (gLc true [(5 : Nat)] (gSeq true (gV (gVar 3))) (gaName 5) gYes (gCatT (gVar 5) (gTup (gCons (gVar 4) gNil)))))))) (alS d v1 (od (tI one)) (od (sD [[]])) (ov w4) (ov w5)) =
    .ok .nx (alS d v1 (od (tI one)) (od (sD Q)) (ov w4') (ov w5)) := by
  obtain ⟨S', h2, Q, w4', h3, h4, rfl⟩ := loopFor_pre2 (c := D.int) (ga := gaName 4) (gb := gSet 3 (gV (gD (gNew2 true dCat (gV (gVar 3)) (gLc true [(5 : Nat)] (gSeq true (gV (gVar 3))) (gaName 5) gYes (gCatT (gVar 5) (gTup (gCons (gVar 4) gNil))))))))
    (fun p S => ∃ Q w4, Q.length ≤ 2 ^ p.length ∧ (∀ r ∈ Q, r.length ≤ p.length ∧ ∀ x ∈ r, x ∈ one) ∧ S = alS d v1 (od (tI one)) (od (sD Q)) (ov w4) (ov w5))
    (L := srt one) (pre := []) (S := alS d v1 (od (tI one)) (od (sD [[]])) (ov w4) (ov w5)) ⟨[[]], w4, by simp, by simp, rfl⟩ (by
      rintro i p q S hq ⟨Q, w4, h2, h3, rfl⟩
      have hl := congrArg List.length hq
      simp [srt_len] at hl
      have hi : i ∈ one := srt_mem.mp (by have : srt one = p ++ i :: q := by simpa using hq
                                          rw [this]; simp)
      have h5 : 2 ^ p.length ≤ 2 ^ 10 := Nat.pow_le_pow_right (by omega) (by omega)
      have h6 := al_item d Q (by omega) (fun r hr => by have := (h3 r hr).1; omega) i v1 (od (tI one)) w5
      refine ⟨alS d v1 (od (tI one)) (od (sD Q)) (od (.int i)) (ov w5), _, rfl, .inl h6, Q ++ Q.map (· ++ [i]), some (.int i), ?_, ?_, rfl⟩
      · simp [Nat.pow_succ]; omega
      · intro r hr
        rcases List.mem_append.mp hr with h | h
        · have := h3 r h
          simp; exact ⟨by omega, this.2⟩
        · obtain ⟨r', h7, rfl⟩ := List.mem_map.mp h
          have := h3 r' h7
          refine ⟨by simp; omega, fun x hx => ?_⟩
          rcases List.mem_append.mp hx with h | h
          · exact this.2 x h
          · rw [List.mem_singleton.mp h]; exact hi)
  have hs : gSeq false (gNew1 dSorted (gV (gVar 2))) (alS d v1 (od (tI one)) (od (sD [[]])) (ov w4) (ov w5)) = .ok ((srt one).map D.int) (alS d v1 (od (tI one)) (od (sD [[]])) (ov w4) (ov w5)) := by
    have hv : gV (gVar 2) (alS d v1 (od (tI one)) (od (sD [[]])) (ov w4) (ov w5)) = .ok (.fzn (tI one)) (alS d v1 (od (tI one)) (od (sD [[]])) (ov w4) (ov w5)) := rfl
    have hd := dSorted_ints (d := tI one) (l := one) (.inl rfl) (by omega)
    simp [gSeq, gNew1, hv, R.bind, Vl.fzn, Vl.lev, hd, itemsV]
  refine ⟨Q, w4', ?_, fun r hr => ⟨by have := (h4 r hr).1; simp [srt_len] at this; omega, (h4 r hr).2⟩, (gFor_eq hs).trans h2⟩
  have h5 : 2 ^ one.length ≤ 2 ^ 10 := Nat.pow_le_pow_right (by omega) (by omega)
  simp [srt_len] at h3
  omega
theorem allwithin_ok (K : PySem.W.Frag) (ev : Ev) {sets : List (List Int)} (hs : sets.length < 64) (hl : ∀ l ∈ sets, l.length ≤ 10) :
    ∃ rows T', (∀ r ∈ rows, r.length ≤ 10 ∧ ∃ one ∈ sets, ∀ x ∈ r, x ∈ one) ∧ f_law_all_within K ev [⟨false, some (0, sD sets)⟩] = .ok ⟨false, 1, sD rows⟩ T' := by
  have main : ∃ rows S', (∀ r ∈ rows, r.length ≤ 10 ∧ ∃ one ∈ sets, ∀ x ∈ r, x ∈ one) ∧ g_law_all_within K ev (alS (sD sets) none none none none none) = .ok (.rt ⟨false, 1, sD rows⟩) S' ∧ 1 ≤ S'.length := by
    unfold g_law_all_within
    obtain ⟨S', h2, T, ds, w2, w3, w4, w5, h3, h4, rfl⟩ := loopFor_pre2 (c := tI) (ga := gaName 2) (gb := gThen (gSet 3 (gV (gD (gLst (gCons (gTup gNil) gNil)))))
  (gThen (gFor (gSeq false (gNew1 dSorted (gV (gVar 2)))) (gaName 4)
  (gSet 3 (gV (gD (gNew2 true dCat (gV (gVar 3)) (gLc true [(5 : Nat)] (gSeq true (gV (gVar 3))) (gaName 5) gYes (gCatT (gVar 5) (gTup (gCons (gVar 4) gNil)))))))))
  (gFor (gSeq false (gV (gVar 3))) (gaName 5)
  (gDPut 1 (gC (.bl true)) (gVar 5)))))
      (fun p S => ∃ T ds w2 w3 w4 w5, T.length ≤ 1024 * p.length ∧ (∀ r ∈ T, r.length ≤ 10 ∧ ∃ one ∈ sets, ∀ x ∈ r, x ∈ one) ∧ S = alS (sD sets) (some (1, .dT (ik T) ds)) (ov w2) (ov w3) (ov w4) (ov w5))
      (L := sets) (pre := []) (S := alS (sD sets) (some (1, .dT (ik []) [])) none none none none) ⟨[], [], none, none, none, none, by simp, by simp, rfl⟩ (by
        rintro one p q S hq ⟨T, ds, w2, w3, w4, w5, h2, h3, rfl⟩
        have hq' : sets = p ++ one :: q := by simpa using hq
        have hm : one ∈ sets := by rw [hq']; simp
        have hpl := congrArg List.length hq'
        simp at hpl
        obtain ⟨Q, w4', h4, h5, h6⟩ := al_rows (sD sets) one (hl _ hm) (some (1, .dT (ik T) ds)) w4 w5
        obtain ⟨T', ds', w5', h7, h8, h9⟩ := al_puts (sD sets) (fun r => r.length ≤ 10 ∧ ∃ one ∈ sets, ∀ x ∈ r, x ∈ one) Q (fun r hr => ⟨(h5 r hr).1, one, hm, (h5 r hr).2⟩) T h3 (by omega) ds (od (tI one)) (ov w4') w5
        refine ⟨alS (sD sets) (some (1, .dT (ik T) ds)) (od (tI one)) (ov w3) (ov w4) (ov w5), alS (sD sets) (some (1, .dT (ik T') ds')) (od (tI one)) (od (sD Q)) (ov w4') (ov w5'), rfl, .inl ?_, T', ds', some (tI one), some (sD Q), w4', w5', ?_, h8, rfl⟩
        · refine (gThen_nx (S1 := alS (sD sets) (some (1, .dT (ik T) ds)) (od (tI one)) (od (sD [[]])) (ov w4) (ov w5)) ?_).trans ((gThen_nx h6).trans h9)
          exact (gSet_eq (k := 0) (d := sD [[]]) (v := ov w3) rfl rfl).trans rfl
        · simp; omega)
    have hk : gListKeys 1 (alS (sD sets) (some (1, .dT (ik T) ds)) (ov w2) (ov w3) (ov w4) (ov w5)) = .ok ⟨false, 1, sD T⟩ (alS (sD sets) (some (1, .dT (ik T) ds)) (ov w2) (ov w3) (ov w4) (ov w5)) := by
      have e : (ik T).map (fun k => D.tup (k.map kD)) = T.map tI := by
        unfold ik
        rw [List.map_map]
        refine List.map_congr_left fun r _ => ?_
        simp only [Function.comp, tI, List.map_map]
        rfl
      show R.ok (⟨false, 1, .lst ((ik T).map fun k => D.tup (k.map kD))⟩ : Vl) _ = _
      rw [e]; rfl
    have hT : T.length ≤ 16777216 := by simp at h3; omega
    have hd := dSorted_rows T hT
    refine ⟨srtR T, (alS (sD sets) (some (1, .dT (ik T) ds)) (ov w2) (ov w3) (ov w4) (ov w5)), fun r hr => h4 r (srtR_mem.mp hr), ?_, by simp [alS]⟩
    refine (gThen_nx (S1 := alS (sD sets) (some (1, .dT (ik []) [])) none none none none) rfl).trans ?_
    refine (gThen_nx ((gFor_eq (xs := sets.map tI) rfl).trans h2)).trans ?_
    have hd' : dSorted (sD T) = some ((srtR T).map tI) := hd
    have hg : gNew1 dSorted (gListKeys 1) (alS (sD sets) (some (1, .dT (ik T) ds)) (ov w2) (ov w3) (ov w4) (ov w5)) = .ok ⟨false, 1, sD (srtR T)⟩ (alS (sD sets) (some (1, .dT (ik T) ds)) (ov w2) (ov w3) (ov w4) (ov w5)) := by
      simp only [gNew1, hk, R.bind, Vl.lev, hd']
      rfl
    unfold gRet
    rw [hg]
    rfl
  obtain ⟨rows, S9, h0, h9, hl9⟩ := main
  exact ⟨rows, _, h0, fnSem_rt h9 hl9⟩
end VL

set_option Elab.async false
set_option linter.all false
set_option autoImplicit false
set_option maxRecDepth 100000
namespace VL
open PySem PySem.Spec L2
open PyProof.Rows hiding St

theorem plain_bool (K : PySem.W.Frag) (ev : Ev) (b : Bool) : ∃ z T', f_law_plain K ev 6 [⟨false, some (0, .bl b)⟩] = .ok ⟨false, 0, .str z⟩ T' := by
  cases b
  · refine ⟨"False", [⟨false, none⟩], ?_⟩
    simp [f_law_plain, fnSem, g_law_plain, gThen, gIfS, gTru, gV, gApp, gCons, gNil, gVar, gTup, gC, lineOk, R.bind, dIsi, Vl.fzn, truD, gNext]
    rfl
  · refine ⟨"True", [⟨false, none⟩], ?_⟩
    simp [f_law_plain, fnSem, g_law_plain, gThen, gIfS, gTru, gV, gApp, gCons, gNil, gVar, gTup, gC, lineOk, R.bind, dIsi, Vl.fzn, truD, gNext]
    rfl
def plI (i : Int) : D := .lst [.bl false, .int i]
theorem plain_int (K : PySem.W.Frag) (ev : Ev) (k : Nat) (i : Int) : ∃ T', f_law_plain K ev (k + 1) [⟨false, some (0, .int i)⟩] = .ok ⟨false, 1, plI i⟩ T' := by
  refine ⟨[⟨false, none⟩], ?_⟩
  simp [f_law_plain, fnSem, g_law_plain, gThen, gIfS, gTru, gV, gApp, gCons, gNil, gVar, gTup, gC, lineOk, R.bind, dIsi, Vl.fzn, truD, gNext]
  rfl
theorem plain_seq {α : Type} (K : PySem.W.Frag) (ev : Ev) (k : Nat) (c e : α → D) (L : List α) (hl : L.length ≤ 1000) (t : Bool)
    (hc : ∀ a ∈ L, ∃ m T', m ≤ 1 ∧ f_law_plain K ev k [⟨false, some (0, c a)⟩] = .ok ⟨false, m, e a⟩ T') (d : D) (hd : d = if t then .lst (L.map c) else .tup (L.map c)) :
    f_law_plain K ev (k + 1) [⟨false, some (0, d)⟩] = .ok ⟨false, 1, .lst (.bl t :: L.map e)⟩ [⟨false, none⟩] := by
  have hi : itemsV (.fzn d) = some (L.map c) := by subst hd; cases t <;> rfl
  have hlc := gLc_map (vs := [1]) (v := 1) (gi := gSeq true (gV (gVar 0))) (gt := gYes) (ge := gD (gCallP (f_law_plain K ev k) (gArV (gVar 1) gArN))) (S := [⟨false, some (0, d)⟩, ⟨false, none⟩]) (L := L) c (fun _ => true) e
    (by simp [gSeq, gV, gVar, R.bind, hi]) rfl (by omega) rfl (fun a ha => ⟨rfl, fun _ => by
      obtain ⟨m, T', hm, h⟩ := hc a ha
      refine ⟨[⟨false, some (0, d)⟩, ⟨false, some (0, c a)⟩], ?_⟩
      have hcall : gCallP (f_law_plain K ev k) (gArV (gVar 1) gArN) [⟨false, some (0, d)⟩, ⟨false, some (0, c a)⟩] = .ok ⟨false, m, e a⟩ [⟨false, some (0, d)⟩, ⟨false, some (0, c a)⟩] := gCallP_eq (as := [.v (c a)]) rfl rfl rfl h
      simp [gD, Sl.wipe, wipeFrom, Sl.put, hcall, R.bind]⟩)
  rw [filter_all] at hlc
  have hlen : L.length + 1 ≤ 16777216 := by omega
  have h1 : gTru (gV (gApp dIsi (gCons (gVar 0) (gCons (gTup (gCons (gC (.ty "tuple")) (gCons (gC (.ty "list")) gNil))) gNil)))) [⟨false, some (0, d)⟩, ⟨false, none⟩] = .ok true [⟨false, some (0, d)⟩, ⟨false, none⟩] := by
    subst hd; cases t <;> rfl
  have h2 : gLst (gCons (gApp dIsi (gCons (gVar 0) (gCons (gC (.ty "list")) gNil))) gNil) [⟨false, some (0, d)⟩, ⟨false, none⟩] = .ok ⟨false, 1, .lst [.bl t]⟩ [⟨false, some (0, d)⟩, ⟨false, none⟩] := by
    subst hd; cases t <;> simp [gLst, gCons, gNil, gApp, gVar, gC, R.bind, lineOk, dIsi] <;> rfl
  have h3 : gNew2 true dCat (gLst (gCons (gApp dIsi (gCons (gVar 0) (gCons (gC (.ty "list")) gNil))) gNil)) (gLc true [(1 : Nat)] (gSeq true (gV (gVar 0))) (gaName 1) gYes (gD (gCallP (f_law_plain K ev k) (gArV (gVar 1) gArN)))) [⟨false, some (0, d)⟩, ⟨false, none⟩] = .ok ⟨false, 1, .lst (.bl t :: L.map e)⟩ [⟨false, some (0, d)⟩, ⟨false, none⟩] := by
    have hcat : dCat (.lst [.bl t]) (.lst (L.map e)) = some (.bl t :: L.map e) := by simp [dCat, lineOk, hlen]
    simp only [gNew2, h2, hlc, R.bind, Vl.lev, hcat]
    rfl
  have main : g_law_plain K ev (f_law_plain K ev k) [⟨false, some (0, d)⟩, ⟨false, none⟩] = .ok (.rt ⟨false, 1, .lst (.bl t :: L.map e)⟩) [⟨false, some (0, d)⟩, ⟨false, none⟩] := by
    unfold g_law_plain
    refine gThen_rt ((gIfS_t h1).trans ?_)
    unfold gRet
    rw [h3]; rfl
  exact (fnSem_rt (n := 1) (m := 1) (T := [⟨false, some (0, d)⟩]) main (by simp)).trans rfl
def plT (l : List Int) : D := .lst (.bl false :: l.map plI)
def plS (s : List (List Int)) : D := .lst (.bl true :: s.map plT)
theorem plain_tup' (K : PySem.W.Frag) (ev : Ev) (k : Nat) (l : List Int) (hl : l.length ≤ 1000) : ∃ T', f_law_plain K ev (k + 2) [⟨false, some (0, tI l)⟩] = .ok ⟨false, 1, plT l⟩ T' :=
  ⟨_, plain_seq K ev (k + 1) D.int plI l hl false (fun i _ => by obtain ⟨T', h⟩ := plain_int K ev k i; exact ⟨1, T', by omega, h⟩) (tI l) rfl⟩
theorem plain_rows (K : PySem.W.Frag) (ev : Ev) (s : List (List Int)) (hs : s.length ≤ 1000) (hl : ∀ l ∈ s, l.length ≤ 1000) : ∃ T', f_law_plain K ev 6 [⟨false, some (0, sD s)⟩] = .ok ⟨false, 1, plS s⟩ T' :=
  ⟨_, plain_seq K ev 5 tI plT s hs true (fun l h => by obtain ⟨T', h⟩ := plain_tup' K ev 3 l (hl l h); exact ⟨1, T', by omega, h⟩) (sD s) rfl⟩
theorem dEq_self {d : D} (h : d.plain = true) (hd : d.py.depth ≤ 60) (neg : Bool) : dEq neg d d = some (.bl (!neg)) := by
  have h1 : dEqB d d = true := PySem.SeqAt.eqv_refl_plain _ (D.py_plain d h)
  simp only [dEq, okEq, h, Bool.true_and, Nat.min_self, decide_eq_true hd, if_true, h1]
  cases neg <;> rfl
theorem plain_all {α : Type} (c : α → D) (L : List α) (h : ∀ a ∈ L, (c a).plain = true) : D.plainL (L.map c) = true := by
  rw [plainL_all, List.all_map, List.all_eq_true]; exact h
theorem depth_all {α : Type} (c : α → D) (m : Nat) : ∀ (L : List α), (∀ a ∈ L, (c a).py.depth ≤ m) → PyData.depthAll (D.pyL (L.map c)) ≤ m + 1
  | [], _ => by simp [D.pyL, PyData.depthAll]
  | a :: L, h => by
    have h1 := h a (by simp)
    have h2 := depth_all c m L fun b hb => h b (by simp [hb])
    simp [D.pyL, PyData.depthAll]; omega
theorem ok_lst {α : Type} (c : α → D) (m : Nat) (L : List α) (h : ∀ a ∈ L, (c a).plain = true ∧ (c a).py.depth ≤ m) : (D.lst (L.map c)).plain = true ∧ (D.lst (L.map c)).py.depth ≤ m + 2 := by
  have h1 := plain_all c L fun a ha => (h a ha).1
  have h2 := depth_all c m L fun a ha => (h a ha).2
  refine ⟨by simpa [D.plain] using h1, ?_⟩
  simp [D.py, PyData.depth]; omega
theorem ok_tI (l : List Int) : (tI l).plain = true ∧ (tI l).py.depth ≤ 3 := by
  refine ⟨plain_tI l, ?_⟩
  have := depthAll_ints l
  rw [py_tI]; simp [PyData.depth]; omega
theorem ok_sD (s : List (List Int)) : (sD s).plain = true ∧ (sD s).py.depth ≤ 60 := by
  have h := ok_lst tI 3 s fun l _ => ok_tI l
  exact ⟨h.1, by have := h.2; unfold sD; omega⟩
theorem ok_plI (i : Int) : (plI i).plain = true ∧ (plI i).py.depth ≤ 3 := by
  have h := ok_lst (fun d => d) 0 [.bl false, .int i] (by simp [D.plain, D.py, PyData.depth])
  exact ⟨h.1, by have := h.2; show (D.lst (List.map (fun d => d) [.bl false, .int i])).py.depth ≤ 3; omega⟩
theorem ok_plT (l : List Int) : (plT l).plain = true ∧ (plT l).py.depth ≤ 6 := by
  have h := ok_lst (fun d : D => d) 3 (.bl false :: l.map plI) (by
    intro a ha
    rcases List.mem_cons.mp ha with rfl | ha
    · simp [D.plain, D.py, PyData.depth]
    · obtain ⟨i, _, rfl⟩ := List.mem_map.mp ha; exact ok_plI i)
  rw [List.map_id'] at h
  exact ⟨h.1, by have := h.2; unfold plT; omega⟩
theorem ok_plS (s : List (List Int)) : (plS s).plain = true ∧ (plS s).py.depth ≤ 60 := by
  have h := ok_lst (fun d : D => d) 6 (.bl true :: s.map plT) (by
    intro a ha
    rcases List.mem_cons.mp ha with rfl | ha
    · simp [D.plain, D.py, PyData.depth]
    · obtain ⟨i, _, rfl⟩ := List.mem_map.mp ha; exact ok_plT i)
  rw [List.map_id'] at h
  exact ⟨h.1, by have := h.2; unfold plS; omega⟩
theorem dEq_str (z : Str) : dEq true (.str z) (.str z) = some (.bl false) := dEq_self (d := .str z) (by simp [D.plain]) (by simp [D.py, PyData.depth]) true
end VL

set_option Elab.async false
set_option linter.all false
set_option autoImplicit false
set_option maxRecDepth 100000
namespace VL
open PySem PySem.Spec L2
open PyProof.Rows hiding St

theorem take_eq {sets : List (List Int)} {k : Nat} (hk : k ≤ sets.length) : sets.take k = (List.range k).map (at' sets) := by
  apply List.ext_getElem
  · simp; omega
  · intro i h1 h2
    simp at h1 h2
    simp [at', show i < sets.length by omega]
theorem all_take {sets : List (List Int)} {k : Nat} (hk : k ≤ sets.length) (f : List Int → Bool) : (sets.take k).all f = (List.range k).all fun p => f (at' sets p) := by
  rw [take_eq hk, List.all_map]; rfl
theorem inter_full {a b : List Int} : (inter a b).length = a.length ↔ ∀ x ∈ a, x ∈ b := by
  unfold inter
  rw [List.length_filter_eq_length_iff]
  simp
theorem perm_of_sub {a b : List Int} (ha : a.Nodup) (hb : b.Nodup) (hl : a.length = b.length) (h : ∀ x ∈ a, x ∈ b) : a.Perm b :=
  by
    have h2 : ∀ x, x ∈ a ↔ x ∈ b := fun x => ⟨h x, fun hx => Classical.byContradiction fun hn => by
      have := nodup_le (x :: a) b (List.nodup_cons.mpr ⟨hn, ha⟩) fun y hy => by
        rcases List.mem_cons.mp hy with rfl | hy
        · exact hx
        · exact h y hy
      simp at this; omega⟩
    refine List.perm_iff_count.mpr fun x => ?_
    rw [List.Nodup.count ha, List.Nodup.count hb]
    simp [h2 x]
theorem hasSides_eq {sets : List (List Int)} {k : Nat} (hk : k ≤ sets.length) (one : List Int) : hasSides sets k one = (List.range k).all fun p => (sets.take k).any fun e => sharesB one e && subB (inter one (at' sets p)) (inter one e) := by
  unfold hasSides
  rw [all_take hk]
  congr 1
  funext p
  unfold sidesOf
  rw [List.any_map, List.any_filter]
  rfl
theorem isShell_eq {sets : List (List Int)} {n : Nat} (h : ∀ l ∈ sets, l.Nodup ∧ l.length = n) : isShell sets = lawShell sets := by
  apply Bool.eq_iff_iff.mpr
  have hm : ∀ {k}, k < sets.length → at' sets k ∈ sets := fun hk => by rw [at'_eq hk]; exact List.getElem_mem hk
  have hnd : (sets.map srt).Nodup ↔ ∀ k p, k < sets.length → p < k → ¬ (inter (at' sets k) (at' sets p)).length = (at' sets k).length := by
    unfold List.Nodup
    rw [List.pairwise_iff_getElem]
    constructor
    · intro hp k p hk hpk he
      have h1 := h _ (hm hk)
      have h2 := h _ (hm (Nat.lt_trans hpk hk))
      have hpp := perm_of_sub h1.1 h2.1 (by omega) (inter_full.mp he)
      refine hp p k (by simp; omega) (by simpa using hk) hpk ?_
      rw [List.getElem_map, List.getElem_map, ← at'_eq hk, ← at'_eq (Nat.lt_trans hpk hk)]
      exact srt_eq.mpr hpp.symm
    · intro hp i j hi hj hij he
      simp at hi hj
      rw [List.getElem_map, List.getElem_map, ← at'_eq hi, ← at'_eq hj] at he
      have hpp := srt_eq.mp he
      exact hp j i hj hij (inter_full.mpr fun x hx => hpp.mem_iff.mpr hx)
  have hr : ∀ k, k < sets.length → (shellRow sets k = true ↔ (∀ p, p < k → ¬ (inter (at' sets k) (at' sets p)).length = (at' sets k).length) ∧ hasSides sets k (at' sets k) = true) := by
    intro k hk
    rw [hasSides_eq (Nat.le_of_lt hk)]
    unfold shellRow
    simp only [List.all_eq_true, List.mem_range, pairOk, Bool.and_eq_true, Bool.not_eq_true', beq_eq_false_iff_ne, ne_eq]
    constructor
    · intro h1
      exact ⟨fun p hp he => (h1 p hp).1 (by rw [he]), fun p hp => (h1 p hp).2⟩
    · intro h1 p hp
      exact ⟨fun he => h1.1 p hp (by omega), h1.2 p hp⟩
  unfold isShell lawShell
  simp only [Bool.and_eq_true, decide_eq_true_eq, List.all_eq_true, List.mem_range]
  constructor
  · rintro ⟨h1, h2⟩ k hk
    exact (hr k hk).mpr ⟨fun p hp => hnd.mp h1 k p hk hp, h2 k hk⟩
  · intro h1
    exact ⟨hnd.mpr fun k p hk hp => ((hr k hk).mp (h1 k hk)).1 p hp, fun k hk => ((hr k hk).mp (h1 k hk)).2⟩
end VL

set_option Elab.async false
set_option linter.all false
set_option autoImplicit false
set_option maxRecDepth 100000
namespace VL
open PySem PySem.Spec L2
open PyProof.Rows hiding St

theorem subB_iff {a b : List Int} : subB a b = true ↔ ∀ x ∈ a, x ∈ b := by simp [subB]
theorem mem_inter {a b : List Int} {x : Int} : x ∈ inter a b ↔ x ∈ a ∧ x ∈ b := by simp [inter]
theorem len_split (p : Int → Bool) : ∀ a : List Int, a.length = (a.filter p).length + (a.filter fun i => !p i).length
  | [] => rfl
  | x :: a => by
    have := len_split p a
    cases h : p x <;> simp [List.filter_cons, h] <;> omega
theorem one_out {a e : List Int} (h : sharesB a e = true) : ∃ x ∈ a, x ∉ e ∧ ∀ y ∈ a, y ≠ x → y ∈ e := by
  have h1 : ((inter a e).length : Int) = (a.length : Int) - 1 := by simpa [sharesB] using h
  have h2 : a.length = (a.filter fun i => decide (i ∈ e)).length + (a.filter fun i => !decide (i ∈ e)).length := len_split (fun i => decide (i ∈ e)) a
  have h3 : (a.filter fun i => !decide (i ∈ e)).length = 1 := by unfold inter at h1; omega
  obtain ⟨x, hx⟩ := List.length_eq_one_iff.mp h3
  have hm : ∀ y, y ∈ a ∧ y ∉ e ↔ y = x := fun y => by
    have : y ∈ a.filter (fun i => !decide (i ∈ e)) ↔ y = x := by rw [hx]; simp
    simpa using this
  have h4 := (hm x).mpr rfl
  exact ⟨x, h4.1, h4.2, fun y hy hn => Classical.byContradiction fun hc => hn ((hm y).mp ⟨hy, hc⟩)⟩
theorem mem_fresh {sets : List (List Int)} {k : Nat} (hk : k ≤ sets.length) {x : Int} : x ∈ freshOf sets k ↔ x ∈ at' sets k ∧ ∃ p, p < k ∧ ∀ y ∈ at' sets k, y ≠ x → y ∈ at' sets p := by
  unfold freshOf isFresh
  rw [List.mem_filter, take_eq hk, List.any_map]
  simp [subB, rest, Classical.or_iff_not_imp_left]
theorem side_of {sets : List (List Int)} (h : isShell sets = true) {k p : Nat} (hk : k < sets.length) (hp : p < k) : ∃ q, q < k ∧ sharesB (at' sets k) (at' sets q) = true ∧ ∀ x ∈ at' sets k, x ∈ at' sets p → x ∈ at' sets q := by
  unfold isShell at h
  simp only [Bool.and_eq_true, List.all_eq_true, List.mem_range] at h
  have h2 := h.2 k hk
  rw [hasSides_eq (Nat.le_of_lt hk)] at h2
  simp only [List.all_eq_true, List.mem_range] at h2
  have h3 := h2 p hp
  rw [take_eq (Nat.le_of_lt hk), List.any_map] at h3
  simp only [List.any_eq_true, List.mem_range, Function.comp, Bool.and_eq_true, subB_iff, mem_inter] at h3
  obtain ⟨q, hq, h4, h5⟩ := h3
  exact ⟨q, hq, h4, fun x hx hy => (h5 x ⟨hx, hy⟩).2⟩
def isHome (sets : List (List Int)) (row : List Int) (a : Nat) : Bool := subB (freshOf sets a) row && subB row (at' sets a)
theorem home_lt {sets : List (List Int)} (h : isShell sets = true) {row : List Int} {k p : Nat} (hk : k < sets.length) (hp : p < k) (h1 : isHome sets row k = true) (h2 : isHome sets row p = true) : False := by
  simp only [isHome, Bool.and_eq_true, subB_iff] at h1 h2
  obtain ⟨q, hq, h3, h4⟩ := side_of h hk hp
  obtain ⟨x, hx, hn, hy⟩ := one_out h3
  have hf : x ∈ freshOf sets k := (mem_fresh (Nat.le_of_lt hk)).mpr ⟨hx, q, hq, hy⟩
  exact hn (h4 x hx (h2.2 x (h1.1 x hf)))
theorem one_home {sets : List (List Int)} (h : isShell sets = true) {row : List Int} (hr : ∃ one ∈ sets, ∀ x ∈ row, x ∈ one) : ((List.range sets.length).filter (isHome sets row)).length = 1 := by
  have hex : ∃ k, k < sets.length ∧ ∀ x ∈ row, x ∈ at' sets k := by
    obtain ⟨one, hm, hx⟩ := hr
    obtain ⟨k, hk, rfl⟩ := List.mem_iff_getElem.mp hm
    exact ⟨k, hk, by rw [at'_eq hk]; exact hx⟩
  have hmin : ∀ n k, k < n → k < sets.length → (∀ x ∈ row, x ∈ at' sets k) → ∃ a, a < sets.length ∧ isHome sets row a = true := by
    intro n
    induction n with
    | zero => intro k hk; omega
    | succ n ih =>
      intro k hkn hk hx
      by_cases hp : ∃ p, p < k ∧ ∀ x ∈ row, x ∈ at' sets p
      · obtain ⟨p, hp, hxp⟩ := hp
        exact ih p (by omega) (by omega) hxp
      · refine ⟨k, hk, ?_⟩
        simp only [isHome, Bool.and_eq_true, subB_iff]
        refine ⟨fun x hf => Classical.byContradiction fun hn => ?_, hx⟩
        obtain ⟨_, p, hpk, hy⟩ := (mem_fresh (Nat.le_of_lt hk)).mp hf
        exact hp ⟨p, hpk, fun y hyr => hy y (hx y hyr) fun e => hn (e ▸ hyr)⟩
  obtain ⟨k, hk, hx⟩ := hex
  obtain ⟨a, ha, hh⟩ := hmin (k + 1) k (by omega) hk hx
  have hnd : ((List.range sets.length).filter (isHome sets row)).Nodup := List.nodup_range.filter _
  apply Nat.le_antisymm
  · refine nodup_le _ [a] hnd fun b hb => ?_
    obtain ⟨hb1, hb2⟩ := List.mem_filter.mp hb
    have hb1 := List.mem_range.mp hb1
    rw [List.mem_singleton]
    rcases Nat.lt_trichotomy a b with h1 | h1 | h1
    · exact (home_lt h hb1 h1 hb2 hh).elim
    · exact h1.symm
    · exact (home_lt h ha h1 hh hb2).elim
  · exact List.length_pos_of_mem (List.mem_filter.mpr ⟨List.mem_range.mpr ha, hh⟩)
end VL

set_option Elab.async false
set_option linter.all false
set_option autoImplicit false
set_option maxRecDepth 100000
namespace VL
open PySem PySem.Spec L2
open PyProof.Rows hiding St

theorem last1 : isShell [[1, 2], [2, 1]] = false := by
  rw [isShell_eq (n := 2) (by simp)]
  decide
theorem last2 : isShell [[3]] = true := by
  rw [isShell_eq (n := 1) (by simp)]
  decide
end VL

set_option Elab.async false
set_option linter.all false
set_option autoImplicit false
set_option maxRecDepth 100000
namespace VL
open PySem PySem.Spec L2
open PyProof.Rows hiding St

def dkS (s : D) (v3 v4 v5 v6 v7 v8 : OV) : Sl := [⟨false, some (0, s)⟩, ⟨false, oi 60⟩, ⟨false, oi 14⟩, ⟨false, v3⟩, ⟨false, v4⟩, ⟨false, v5⟩, ⟨false, v6⟩, ⟨false, v7⟩, ⟨false, v8⟩]
abbrev oj (i : Int) : OV := some (0, .int i)
theorem dk_big (s : D) (ms : List Int) (hm : ms.length ≤ 100000) (x : Int) (v4 v5 v6 v8 : OV) :
    ∃ y z, gThen (gDrop (gV (gApd 3 (gV (gOp dMod (gApp dInt (gCons (gVar 7) gNil)) (gC (.int (1000003)))))))) (gSet 7 (gV (gOp dDiv (gVar 7) (gC (.int (1000003)))))) (dkS s (ol ms) v4 v5 v6 (oj x) v8) =
      .ok .nx (dkS s (ol (ms ++ [y])) v4 v5 v6 (oj z) v8) := by
  have h1 : gOp dMod (gApp dInt (gCons (gVar 7) gNil)) (gC (.int (1000003))) (dkS s (ol ms) v4 v5 v6 (oj x) v8) = .ok (.int (x % 1000003)) (dkS s (ol ms) v4 v5 v6 (oj x) v8) := by
    simp [gOp, gApp, gCons, gNil, gVar, gC, dkS, R.bind, dInt, hI]
  have h2 : gOp dDiv (gVar 7) (gC (.int (1000003))) (dkS s (ol (ms ++ [x % 1000003])) v4 v5 v6 (oj x) v8) = .ok (.int (x / 1000003)) (dkS s (ol (ms ++ [x % 1000003])) v4 v5 v6 (oj x) v8) := by
    simp [gOp, gVar, gC, dkS, R.bind, hI]
  refine ⟨x % 1000003, x / 1000003, ?_⟩
  refine (gThen_nx ((apd_int (S := dkS s (ol ms) v4 v5 v6 (oj x) v8) (i := 3) (l := ms) (x := x % 1000003) (b := false) rfl h1 (by omega)).trans rfl)).trans ?_
  refine (gSet_eq (k := 0) (d := .int (x / 1000003)) (v := oj x) (S1 := dkS s (ol (ms ++ [x % 1000003])) v4 v5 v6 (oj x) v8) ?_ rfl).trans rfl
  unfold gV
  rw [show Sl.put (dkS s (ol ms) v4 v5 v6 (oj x) v8) 3 (ol (ms ++ [x % 1000003])) = dkS s (ol (ms ++ [x % 1000003])) v4 v5 v6 (oj x) v8 from rfl, h2]
  all_goals rfl
theorem dk_small (s : D) (ms : List Int) (hm : ms.length ≤ 100000) (x : Int) (hx : 0 ≤ x ∧ x < 2147483647) (j : Nat) (v5 v6 v7 : OV) :
    ∃ y z, 0 ≤ z ∧ z < 2147483647 ∧ gThen (gSet 4 (gV (gOp dMod (gApp dInt (gCons (gOp dAdd (gOp dAdd (gOp dMul (gVar 4) (gC (.int (69621)))) (gVar 8)) (gC (.int (1)))) gNil)) (gC (.int (2147483629))))))
  (gDrop (gV (gApd 3 (gV (gOp dMod (gApp dInt (gCons (gOp dDiv (gVar 4) (gC (.int (5)))) gNil)) (gC (.int (1000003)))))))) (dkS s (ol ms) (oj x) v5 v6 v7 (oi j)) =
      .ok .nx (dkS s (ol (ms ++ [y])) (oj z) v5 v6 v7 (oi j)) := by
  have hc : cMul x 69621 = true := by simp [cMul]
  have h1 : gV (gOp dMod (gApp dInt (gCons (gOp dAdd (gOp dAdd (gOp dMul (gVar 4) (gC (.int (69621)))) (gVar 8)) (gC (.int (1)))) gNil)) (gC (.int (2147483629)))) (dkS s (ol ms) (oj x) v5 v6 v7 (oi j)) = .ok ⟨false, 0, .int ((x * 69621 + (j : Int) + 1) % 2147483629)⟩ (dkS s (ol ms) (oj x) v5 v6 v7 (oi j)) := by
    simp [gV, gOp, gApp, gCons, gNil, gVar, gC, dkS, R.bind, dInt, hI, hc]
  have h2 : ∀ z, gOp dMod (gApp dInt (gCons (gOp dDiv (gVar 4) (gC (.int (5)))) gNil)) (gC (.int (1000003))) (dkS s (ol ms) (oj z) v5 v6 v7 (oi j)) = .ok (.int (z / 5 % 1000003)) (dkS s (ol ms) (oj z) v5 v6 v7 (oi j)) := fun z => by
    simp [gOp, gApp, gCons, gNil, gVar, gC, dkS, R.bind, dInt, hI]
  refine ⟨(x * 69621 + (j : Int) + 1) % 2147483629 / 5 % 1000003, (x * 69621 + (j : Int) + 1) % 2147483629, Int.emod_nonneg _ (by omega), by have := Int.emod_lt_of_pos (x * 69621 + (j : Int) + 1) (show (0 : Int) < 2147483629 by omega); omega, ?_⟩
  refine (gThen_nx ((gSet_eq (v := oj x) h1 rfl).trans rfl)).trans ?_
  exact (apd_int (S := dkS s (ol ms) (oj ((x * 69621 + (j : Int) + 1) % 2147483629)) v5 v6 v7 (oi j)) (i := 3) (l := ms) (b := false) rfl (h2 _) (by omega)).trans rfl
end VL

set_option Elab.async false
set_option linter.all false
set_option autoImplicit false
set_option maxRecDepth 100000
namespace VL
open PySem PySem.Spec L2
open PyProof.Rows hiding St

theorem dk_bigs (s : D) (ms : List Int) (hm : ms.length ≤ 10000) (x : Int) (v4 v5 v6 : OV) (w8 : Option D) :
    ∃ ms' z w8', ms'.length = ms.length + 14 ∧ gFor (gIt dRange1 (gCons (gVar 2) gNil)) (gaName 8) (gThen (gDrop (gV (gApd 3 (gV (gOp dMod (gApp dInt (gCons (gVar 7) gNil)) (gC (.int (1000003)))))))) (gSet 7 (gV (gOp dDiv (gVar 7) (gC (.int (1000003))))))) (dkS s (ol ms) v4 v5 v6 (oj x) (ov w8)) =
      .ok .nx (dkS s (ol ms') v4 v5 v6 (oj z) (ov w8')) := by
  obtain ⟨S', h2, ms', z, w8', h3, rfl⟩ := loopFor_pre2 (c := fun k : Nat => D.int (k : Nat)) (ga := gaName 8) (gb := gThen (gDrop (gV (gApd 3 (gV (gOp dMod (gApp dInt (gCons (gVar 7) gNil)) (gC (.int (1000003)))))))) (gSet 7 (gV (gOp dDiv (gVar 7) (gC (.int (1000003)))))))
    (fun p S => ∃ ms' z w8, ms'.length = ms.length + p.length ∧ S = dkS s (ol ms') v4 v5 v6 (oj z) (ov w8)) (L := List.range 14) (pre := []) (S := dkS s (ol ms) v4 v5 v6 (oj x) (ov w8)) ⟨ms, x, w8, by simp, rfl⟩ (by
      rintro k p q S hq ⟨ms1, z, w8, h3, rfl⟩
      have hl := congrArg List.length hq
      simp at hl
      obtain ⟨y, z', hh⟩ := dk_big s ms1 (by omega) z v4 v5 v6 (oi k)
      exact ⟨_, _, rfl, .inl hh, ms1 ++ [y], z', some (.int (k : Nat)), by simp; omega, rfl⟩)
  exact ⟨ms', z, w8', by simpa using h3, (gFor_eq (gIt_range (n := 14) (by omega) rfl)).trans h2⟩
theorem dk_smalls (s : D) (ms : List Int) (hm : ms.length ≤ 10000) (x : Int) (hx : 0 ≤ x ∧ x < 2147483647) (v5 v6 v7 : OV) (w8 : Option D) :
    ∃ ms' z w8', ms'.length = ms.length + 14 ∧ (0 ≤ z ∧ z < 2147483647) ∧ gFor (gIt dRange1 (gCons (gVar 2) gNil)) (gaName 8) (gThen (gSet 4 (gV (gOp dMod (gApp dInt (gCons (gOp dAdd (gOp dAdd (gOp dMul (gVar 4) (gC (.int (69621)))) (gVar 8)) (gC (.int (1)))) gNil)) (gC (.int (2147483629))))))
  (gDrop (gV (gApd 3 (gV (gOp dMod (gApp dInt (gCons (gOp dDiv (gVar 4) (gC (.int (5)))) gNil)) (gC (.int (1000003))))))))) (dkS s (ol ms) (oj x) v5 v6 v7 (ov w8)) =
      .ok .nx (dkS s (ol ms') (oj z) v5 v6 v7 (ov w8')) := by
  obtain ⟨S', h2, ms', z, w8', h3, h4, rfl⟩ := loopFor_pre2 (c := fun k : Nat => D.int (k : Nat)) (ga := gaName 8) (gb := gThen (gSet 4 (gV (gOp dMod (gApp dInt (gCons (gOp dAdd (gOp dAdd (gOp dMul (gVar 4) (gC (.int (69621)))) (gVar 8)) (gC (.int (1)))) gNil)) (gC (.int (2147483629))))))
  (gDrop (gV (gApd 3 (gV (gOp dMod (gApp dInt (gCons (gOp dDiv (gVar 4) (gC (.int (5)))) gNil)) (gC (.int (1000003)))))))))
    (fun p S => ∃ ms' z w8, ms'.length = ms.length + p.length ∧ (0 ≤ z ∧ z < 2147483647) ∧ S = dkS s (ol ms') (oj z) v5 v6 v7 (ov w8)) (L := List.range 14) (pre := []) (S := dkS s (ol ms) (oj x) v5 v6 v7 (ov w8)) ⟨ms, x, w8, by simp, hx, rfl⟩ (by
      rintro k p q S hq ⟨ms1, z, w8, h3, h4, rfl⟩
      have hl := congrArg List.length hq
      simp at hl
      obtain ⟨y, z', h5, h6, hh⟩ := dk_small s ms1 (by omega) z h4 k v5 v6 v7
      exact ⟨_, _, rfl, .inl hh, ms1 ++ [y], z', some (.int (k : Nat)), by simp; omega, ⟨h5, h6⟩, rfl⟩)
  exact ⟨ms', z, w8', by simpa using h3, h4, (gFor_eq (gIt_range (n := 14) (by omega) rfl)).trans h2⟩
end VL

set_option Elab.async false
set_option linter.all false
set_option autoImplicit false
set_option maxRecDepth 100000
namespace VL
open PySem PySem.Spec L2
open PyProof.Rows hiding St

theorem dk_rest (s : D) (ms : List Int) (hm : ms.length ≤ 10000) (x : Int) (hx : 0 ≤ x ∧ x < 2147483647) (k : Nat) (c : Int) (w7 w8 : Option D) :
    ∃ ms' z w7' w8', ms'.length = ms.length + 14 ∧ (0 ≤ z ∧ z < 2147483647) ∧ (gThen (gSet 7 (gV (gApp dAbs (gCons (gVar 6) gNil))))
  (gIfS (gBool (gOp dGe (gVar 7) (gOp dPow (gC (.int (10))) (gC (.int (30))))))
  (gFor (gIt dRange1 (gCons (gVar 2) gNil)) (gaName 8)
  (gThen (gDrop (gV (gApd 3 (gV (gOp dMod (gApp dInt (gCons (gVar 7) gNil)) (gC (.int (1000003))))))))
  (gSet 7 (gV (gOp dDiv (gVar 7) (gC (.int (1000003))))))))
  (gThen (gSet 4 (gV (gOp dMod (gApp dInt (gCons (gOp dAdd (gOp dAdd (gOp dAdd (gOp dMul (gVar 4) (gC (.int (48271)))) (gOp dMul (gC (.int (2))) (gVar 7))) (gApp dInt (gCons (gOp dLt (gVar 6) (gC (.int (0)))) gNil))) (gVar 5)) gNil)) (gC (.int (2147483647))))))
  (gFor (gIt dRange1 (gCons (gVar 2) gNil)) (gaName 8)
  (gThen (gSet 4 (gV (gOp dMod (gApp dInt (gCons (gOp dAdd (gOp dAdd (gOp dMul (gVar 4) (gC (.int (69621)))) (gVar 8)) (gC (.int (1)))) gNil)) (gC (.int (2147483629))))))
  (gDrop (gV (gApd 3 (gV (gOp dMod (gApp dInt (gCons (gOp dDiv (gVar 4) (gC (.int (5)))) gNil)) (gC (.int (1000003)))))))))))))
      (dkS s (ol ms) (oj x) (oi k) (oj c) (ov w7) (ov w8)) = .ok .nx (dkS s (ol ms') (oj z) (oi k) (oj c) (ov w7') (ov w8')) := by
  generalize ha : (if c < 0 then -c else c) = r
  have h1 : gSet 7 (gV (gApp dAbs (gCons (gVar 6) gNil))) (dkS s (ol ms) (oj x) (oi k) (oj c) (ov w7) (ov w8)) = .ok .nx (dkS s (ol ms) (oj x) (oi k) (oj c) (oj r) (ov w8)) := by
    simp [gSet, gV, gApp, gCons, gNil, gVar, dkS, R.bind, dAbs, Sl.put, ha, Vl.fzn]
  have h2 : gBool (gOp dGe (gVar 7) (gOp dPow (gC (.int (10))) (gC (.int (30))))) (dkS s (ol ms) (oj x) (oi k) (oj c) (oj r) (ov w8)) = .ok (decide ((10 : Int) ^ 30 ≤ r)) (dkS s (ol ms) (oj x) (oi k) (oj c) (oj r) (ov w8)) := by
    simp [gBool, gOp, gC, gVar, dkS, R.bind, hI, hB]
  cases hb : decide ((10 : Int) ^ 30 ≤ r) with
  | true =>
    rw [hb] at h2
    obtain ⟨ms', z, w8', h3, h4⟩ := dk_bigs s ms hm r (oj x) (oi k) (oj c) w8
    exact ⟨ms', x, some (.int z), w8', h3, hx, (gThen_nx h1).trans ((gIfS_t h2).trans h4)⟩
  | false =>
    rw [hb] at h2
    generalize he : (x * 48271 + 2 * r + (if decide (c < 0) = true then 1 else 0) + (k : Int)) = e
    have hc1 : cMul x 48271 = true := by simp [cMul]
    have hc2 : cMul 2 r = true := by simp [cMul]
    have h5 : gSet 4 (gV (gOp dMod (gApp dInt (gCons (gOp dAdd (gOp dAdd (gOp dAdd (gOp dMul (gVar 4) (gC (.int (48271)))) (gOp dMul (gC (.int (2))) (gVar 7))) (gApp dInt (gCons (gOp dLt (gVar 6) (gC (.int (0)))) gNil))) (gVar 5)) gNil)) (gC (.int (2147483647))))) (dkS s (ol ms) (oj x) (oi k) (oj c) (oj r) (ov w8)) = .ok .nx (dkS s (ol ms) (oj (e % 2147483647)) (oi k) (oj c) (oj r) (ov w8)) := by
      subst he
      simp [gSet, gV, gOp, gApp, gCons, gNil, gVar, gC, dkS, R.bind, dInt, hI, hB, hc1, hc2, Sl.put, Vl.fzn]
    have hz : 0 ≤ e % 2147483647 ∧ e % 2147483647 < 2147483647 := ⟨Int.emod_nonneg _ (by omega), Int.emod_lt_of_pos _ (by omega)⟩
    obtain ⟨ms', z, w8', h3, h4, h6⟩ := dk_smalls s ms hm (e % 2147483647) hz (oi k) (oj c) (oj r) w8
    exact ⟨ms', z, some (.int r), w8', h3, h4, (gThen_nx h1).trans ((gIfS_f h2).trans ((gThen_nx h5).trans h6))⟩
end VL

set_option Elab.async false
set_option linter.all false
set_option autoImplicit false
set_option maxRecDepth 100000
namespace VL
open PySem PySem.Spec L2
open PyProof.Rows hiding St

theorem gLenKl_eq (K : PySem.W.Frag) (a : Addr) (ns : List Int) (v3 v4 v5 v6 v7 v8 : OV) : gLenKl K 0 (dkS (.kl K a ns) v3 v4 v5 v6 v7 v8) = .ok (.int (ns.length : Nat)) (dkS (.kl K a ns) v3 v4 v5 v6 v7 v8) := by
  simp [gLenKl, dkS]
theorem dk_cell (K : PySem.W.Frag) (a : Addr) (ns : List Int) (k : Nat) (v3 v4 : OV) (v6 : Option D) (v7 v8 : OV) :
    ∃ c, ∀ B : Sl → R Out, (gThen (gSet 6 (gV (gC (.int (0)))))
  (gThen (gIfS (gBool (gOp dLt (gVar 5) (gLenKl K 0)))
  (gSet 6 (gV (gIxKl K 0 (gVar 5))))
  gNext) B)) (dkS (.kl K a ns) v3 v4 (oi k) (ov v6) v7 v8) = B (dkS (.kl K a ns) v3 v4 (oi k) (oj c) v7 v8) := by
  have h1 : gSet 6 (gV (gC (.int 0))) (dkS (.kl K a ns) v3 v4 (oi k) (ov v6) v7 v8) = .ok .nx (dkS (.kl K a ns) v3 v4 (oi k) (oj 0) v7 v8) := rfl
  have h2 : gBool (gOp dLt (gVar 5) (gLenKl K 0)) (dkS (.kl K a ns) v3 v4 (oi k) (oj 0) v7 v8) = .ok (decide (k < ns.length)) (dkS (.kl K a ns) v3 v4 (oi k) (oj 0) v7 v8) := by
    have h3 : gVar 5 (dkS (.kl K a ns) v3 v4 (oi k) (oj 0) v7 v8) = .ok (.int (k : Nat)) (dkS (.kl K a ns) v3 v4 (oi k) (oj 0) v7 v8) := rfl
    simp [gBool, gOp, h3, gLenKl_eq, R.bind, dLt_int]
  by_cases hk : k < ns.length
  · rw [decide_eq_true hk] at h2
    refine ⟨ns[k], fun B => (gThen_nx h1).trans (gThen_nx ((gIfS_t h2).trans ?_))⟩
    have h4 : gIxKl K 0 (gVar 5) (dkS (.kl K a ns) v3 v4 (oi k) (oj 0) v7 v8) = .ok (.int ns[k]) (dkS (.kl K a ns) v3 v4 (oi k) (oj 0) v7 v8) := by
      simp [gIxKl, gVar, dkS, R.bind, atI_nat hk]
    have h5 : gV (gIxKl K 0 (gVar 5)) (dkS (.kl K a ns) v3 v4 (oi k) (oj 0) v7 v8) = .ok ⟨false, 0, .int ns[k]⟩ (dkS (.kl K a ns) v3 v4 (oi k) (oj 0) v7 v8) := by
      unfold gV; rw [h4]
      all_goals rfl
    exact (gSet_eq (v := oj 0) h5 rfl).trans rfl
  · rw [decide_eq_false hk] at h2
    exact ⟨0, fun B => (gThen_nx h1).trans (gThen_nx ((gIfS_f h2).trans rfl))⟩
theorem deck_ok (K : PySem.W.Frag) (ev : Ev) (a : Addr) (ns : List Int) (h : ns.length ≤ 63) :
    ∃ ms T', f_law_deck K ev [⟨false, some (0, .kl K a ns)⟩, ⟨false, oi 60⟩, ⟨false, oi 14⟩] = .ok ⟨false, 1, lI ms⟩ T' ∧ ms.length ≤ 840 := by
  have main : ∃ ms S', g_law_deck K ev (dkS (.kl K a ns) none none none none none none) = .ok (.rt ⟨false, 1, lI ms⟩) S' ∧ 3 ≤ S'.length ∧ ms.length ≤ 840 := by
    unfold g_law_deck
    have h1 : gSet 4 (gV (gOp dAdd (gC (.int (7))) (gLenKl K 0))) (dkS (.kl K a ns) (ol []) none none none none none) = .ok .nx (dkS (.kl K a ns) (ol []) (oj (7 + ns.length)) none none none none) := by
      refine (gSet_eq (k := 0) (d := .int (7 + ns.length)) (v := none) (S1 := dkS (.kl K a ns) (ol []) none none none none none) ?_ rfl).trans rfl
      simp [gV, gOp, gC, gLenKl_eq, R.bind, hI, Vl.fzn]
    obtain ⟨S', h2, ms, z, w5, w6, w7, w8, h3, h4, rfl⟩ := loopFor_pre2 (c := fun k : Nat => D.int (k : Nat)) (ga := gaName 5) (gb := gThen (gSet 6 (gV (gC (.int (0)))))
  (gThen (gIfS (gBool (gOp dLt (gVar 5) (gLenKl K 0)))
  (gSet 6 (gV (gIxKl K 0 (gVar 5))))
  gNext)
  (gThen (gSet 7 (gV (gApp dAbs (gCons (gVar 6) gNil))))
  (gIfS (gBool (gOp dGe (gVar 7) (gOp dPow (gC (.int (10))) (gC (.int (30))))))
  (gFor (gIt dRange1 (gCons (gVar 2) gNil)) (gaName 8)
  (gThen (gDrop (gV (gApd 3 (gV (gOp dMod (gApp dInt (gCons (gVar 7) gNil)) (gC (.int (1000003))))))))
  (gSet 7 (gV (gOp dDiv (gVar 7) (gC (.int (1000003))))))))
  (gThen (gSet 4 (gV (gOp dMod (gApp dInt (gCons (gOp dAdd (gOp dAdd (gOp dAdd (gOp dMul (gVar 4) (gC (.int (48271)))) (gOp dMul (gC (.int (2))) (gVar 7))) (gApp dInt (gCons (gOp dLt (gVar 6) (gC (.int (0)))) gNil))) (gVar 5)) gNil)) (gC (.int (2147483647))))))
  (gFor (gIt dRange1 (gCons (gVar 2) gNil)) (gaName 8)
  (gThen (gSet 4 (gV (gOp dMod (gApp dInt (gCons (gOp dAdd (gOp dAdd (gOp dMul (gVar 4) (gC (.int (69621)))) (gVar 8)) (gC (.int (1)))) gNil)) (gC (.int (2147483629))))))
  (gDrop (gV (gApd 3 (gV (gOp dMod (gApp dInt (gCons (gOp dDiv (gVar 4) (gC (.int (5)))) gNil)) (gC (.int (1000003))))))))))))))) 
      (fun p S => ∃ ms z w5 w6 w7 w8, ms.length = 14 * p.length ∧ (0 ≤ z ∧ z < 2147483647) ∧ S = dkS (.kl K a ns) (ol ms) (oj z) (ov w5) (ov w6) (ov w7) (ov w8))
      (L := List.range 60) (pre := []) (S := dkS (.kl K a ns) (ol []) (oj (7 + ns.length)) none none none none) ⟨[], _, none, none, none, none, rfl, by omega, rfl⟩ (by
        rintro k p q S hq ⟨ms, z, w5, w6, w7, w8, h3, h4, rfl⟩
        have hl := congrArg List.length hq
        simp at hl
        obtain ⟨c, hc⟩ := dk_cell K a ns k (ol ms) (oj z) w6 (ov w7) (ov w8)
        obtain ⟨ms', z', w7', w8', h5, h6, h7⟩ := dk_rest (.kl K a ns) ms (by omega) z h4 k c w7 w8
        exact ⟨dkS (.kl K a ns) (ol ms) (oj z) (oi k) (ov w6) (ov w7) (ov w8), _, rfl, .inl ((hc _).trans h7), ms', z', some (.int (k : Nat)), some (.int c), w7', w8', by simp; omega, h6, rfl⟩)
    refine ⟨ms.reverse, dkS (.kl K a ns) none (oj z) (ov w5) (ov w6) (ov w7) (ov w8), ?_, by simp [dkS], by simp at h3 ⊢; omega⟩
    refine (gThen_nx (S1 := dkS (.kl K a ns) (ol []) none none none none none) rfl).trans ((gThen_nx h1).trans ((gThen_nx ((gFor_eq (gIt_range (n := 60) (by omega) rfl)).trans h2)).trans ?_))
    have hrev : gDrop (gV (gRev 3)) (dkS (.kl K a ns) (ol ms) (oj z) (ov w5) (ov w6) (ov w7) (ov w8)) = .ok .nx (dkS (.kl K a ns) (ol ms.reverse) (oj z) (ov w5) (ov w6) (ov w7) (ov w8)) := by
      simp [gDrop, gV, gRev, dkS, R.bind, Sl.put, ol, lI, List.map_reverse]
    exact (gThen_nx hrev).trans rfl
  obtain ⟨ms, S9, h9, hl9, hm⟩ := main
  exact ⟨ms, _, fnSem_rt h9 hl9, hm⟩
end VL

set_option Elab.async false
set_option linter.all false
set_option autoImplicit false
set_option maxRecDepth 100000
namespace VL
open PySem PySem.Spec L2
open PyProof.Rows hiding St

def drS (ns : List Int) (v1 v2 v3 v4 v5 v6 v7 : OV) : Sl := [⟨true, some (1, lI ns)⟩, ⟨false, v1⟩, ⟨false, v2⟩, ⟨false, v3⟩, ⟨false, v4⟩, ⟨false, v5⟩, ⟨false, v6⟩, ⟨false, v7⟩]
/-- a draw below m -/
theorem dr_take (K : PySem.W.Frag) (ev : Ev) (ns : List Int) (m : Int) (hm : 0 < m) :
    ∃ r ns', 0 ≤ r ∧ r < m ∧ ns'.length ≤ ns.length ∧ ∀ (g : Sl → R D) (w1 w2 w3 w4 w5 w6 w7 : OV), g (drS ns w1 w2 w3 w4 w5 w6 w7) = .ok (.int m) (drS ns w1 w2 w3 w4 w5 w6 w7) → gCall (f_law_take K ev) (gArIo 0 (gArV g gArN)) (drS ns w1 w2 w3 w4 w5 w6 w7) = .ok (.fzn (.int r)) (drS ns' w1 w2 w3 w4 w5 w6 w7) := by
  obtain ⟨r, ms, h1, h2, h3, h4⟩ := take_ok K ev ns m hm
  refine ⟨r, ms, h1, h2, h3, fun g w1 w2 w3 w4 w5 w6 w7 hg => ?_⟩
  have ha : gArIo 0 (gArV g gArN) (drS ns w1 w2 w3 w4 w5 w6 w7) = .ok [.io 0, .v (.int m)] (drS ns w1 w2 w3 w4 w5 w6 w7) := by
    unfold gArIo
    show (gArV g gArN (drS ns w1 w2 w3 w4 w5 w6 w7)).bind _ = _
    unfold gArV gArN
    simp only [hg, R.bind]
  have hok : okIo [Ar.io 0, .v (.int m)] = true := rfl
  have hT : argSl [Ar.io 0, .v (.int m)] (drS ns w1 w2 w3 w4 w5 w6 w7) = some [⟨true, some (1, lI ns)⟩, ⟨false, some (0, .int m)⟩] := rfl
  simp only [gCall, ha, R.bind, hok, if_true, hT, h4]
  rfl
end VL

set_option Elab.async false
set_option linter.all false
set_option autoImplicit false
set_option maxRecDepth 100000
namespace VL
open PySem PySem.Spec L2
open PyProof.Rows hiding St

theorem seqIx_nat {r n : Nat} (h : r < n) : seqIndex? (r : Int) n = some r := by
  unfold seqIndex?
  have h1 : ¬ ((r : Int) < 0) := by omega
  simp [h1, h]
theorem ixN_nat {r n : Nat} (h : r < n) : ixN n (r : Int) = some r := by
  have h1 : ¬ ((r : Int) < 0) := by omega
  simp [ixN, h1, h, seqIx_nat h]
  try omega
theorem perm_erase {α : Type} (l : List α) (r : Nat) (h : r < l.length) : l.Perm (l[r] :: l.eraseIdx r) := by
  rw [List.eraseIdx_eq_take_drop_succ]
  have : l = l.take r ++ l[r] :: l.drop (r + 1) := by rw [List.getElem_cons_drop, List.take_append_drop]
  conv => lhs; rw [this]
  exact List.perm_middle
theorem in63 (n : Int) (h : 0 ≤ n ∧ n ≤ 1000000) : decide (-(2 ^ 63) ≤ n ∧ n < 2 ^ 63) = true := by
  have : (2 : Int) ^ 63 = 9223372036854775808 := by decide
  rw [this]
  exact decide_eq_true ⟨by omega, by omega⟩
theorem gPopAt_eq {i : Nat} {g : Sl → R D} {S S1 : Sl} {b b1 : Bool} {m k : Nat} {ys xs : List D} {n : Int} {j : Nat} {d : D} (hS : S[i]? = some ⟨b, some (m + 1, .lst ys)⟩) (hg : g S = .ok (.int n) S1) (hS1 : S1[i]? = some ⟨b1, some (k + 1, .lst xs)⟩)
    (hb : decide (-(2 ^ 63) ≤ n ∧ n < 2 ^ 63) = true) (hs : seqIndex? n xs.length = some j) (he : xs[j]? = some d) : gPopAt i g S = .ok ⟨false, k, d⟩ (S1.put i (some (k + 1, .lst (xs.eraseIdx j)))) := by
  unfold gPopAt
  simp only [hS, hg, R.bind, hS1, hb, if_true, hs, he]
/-- one turn of the first loop: a number of the rest goes over -/
theorem dr_first (K : PySem.W.Frag) (ev : Ev) (ns left first : List Int) (hl : 0 < left.length) (hl2 : left.length ≤ 1000) (hf : first.length ≤ 1000) (v1 v4 v5 v6 v7 : OV) :
    ∃ ns' left' first', ns'.length ≤ ns.length ∧ (first' ++ left').Perm (first ++ left) ∧ first'.length = first.length + 1 ∧
      gDrop (gV (gApd 3 (gPopAt 2 (gD (gCall (f_law_take K ev) (gArIo 0 (gArV (gApp1 dLen (gBor 2)) gArN))))))) (drS ns v1 (ol left) (ol first) v4 v5 v6 v7) =
        .ok .nx (drS ns' v1 (ol left') (ol first') v4 v5 v6 v7) := by
  obtain ⟨r, ns', h1, h2, h3, h4⟩ := dr_take K ev ns left.length (by omega)
  have hg : gApp1 dLen (gBor 2) (drS ns v1 (ol left) (ol first) v4 v5 v6 v7) = .ok (.int (left.length : Nat)) (drS ns v1 (ol left) (ol first) v4 v5 v6 v7) := gApp1_len (x := ⟨true, 1, lI left⟩) rfl (dLen_lI left)
  have h5 := h4 _ v1 (ol left) (ol first) v4 v5 v6 v7 hg
  obtain ⟨q, rfl⟩ := Int.eq_ofNat_of_zero_le h1
  have hq : q < left.length := by omega
  refine ⟨ns', left.eraseIdx q, first ++ [left[q]], h3, ?_, by simp, ?_⟩
  · rw [List.append_assoc]
    exact List.Perm.append_left first (perm_erase left q hq).symm
  · have hb := in63 (q : Int) (by omega)
    have hpop : gPopAt 2 (gD (gCall (f_law_take K ev) (gArIo 0 (gArV (gApp1 dLen (gBor 2)) gArN)))) (drS ns v1 (ol left) (ol first) v4 v5 v6 v7) = .ok ⟨false, 0, .int left[q]⟩ (drS ns' v1 (ol (left.eraseIdx q)) (ol first) v4 v5 v6 v7) := by
      have hd : gD (gCall (f_law_take K ev) (gArIo 0 (gArV (gApp1 dLen (gBor 2)) gArN))) (drS ns v1 (ol left) (ol first) v4 v5 v6 v7) = .ok (.int (q : Nat)) (drS ns' v1 (ol left) (ol first) v4 v5 v6 v7) := by
        unfold gD; rw [h5]; rfl
      have hs : seqIndex? (q : Int) (left.map D.int).length = some q := seqIx_nat (by simpa using hq)
      have he : (left.map D.int)[q]? = some (.int left[q]) := by simp [hq]
      refine (gPopAt_eq (m := 0) (k := 0) (ys := left.map D.int) (xs := left.map D.int) (b := false) (b1 := false) rfl hd rfl hb hs he).trans ?_
      have e2 : (left.map D.int).eraseIdx q = (left.eraseIdx q).map D.int := by simp [List.eraseIdx_eq_take_drop_succ, List.map_take, List.map_drop]
      rw [e2]; rfl
    have hlf : first.length < 16777216 := by omega
    unfold gDrop gV gApd
    show (((gPopAt 2 (gD (gCall (f_law_take K ev) (gArIo 0 (gArV (gApp1 dLen (gBor 2)) gArN)))) (drS ns v1 (ol left) (ol first) v4 v5 v6 v7)).bind _).bind _).bind _ = _
    rw [hpop]
    simp [R.bind, drS, lI, ol, hlf, Sl.put]
end VL

set_option Elab.async false
set_option linter.all false
set_option autoImplicit false
set_option maxRecDepth 100000
namespace VL
open PySem PySem.Spec L2
open PyProof.Rows hiding St

theorem gD_fz {g : Sl → R Vl} {S S1 : Sl} {d : D} (h : g S = .ok (.fzn d) S1) : gD g S = .ok d S1 := by unfold gD; rw [h]; rfl
theorem gIxN_eq {i k : Nat} {g : Sl → R D} {S S1 : Sl} {b b1 : Bool} {w : Nat × D} {c j : D} {y : Vl} (hS : S[i]? = some ⟨b, some w⟩) (hg : g S = .ok j S1) (hS1 : S1[i]? = some ⟨b1, some (k, c)⟩) (hy : ixV ⟨true, k, c⟩ j = some y) : gIxN i g S = .ok y S1 := by
  unfold gIxN
  simp only [hS, hg, R.bind, hS1, hy]
theorem gSetIx_eq {i m k : Nat} {gx gj : Sl → R D} {S S1 S2 : Sl} {b b1 : Bool} {ys xs : List D} {d : D} {n : Int} {j : Nat} (hx : gx S = .ok d S1) (hS1 : S1[i]? = some ⟨b, some (m + 1, .lst ys)⟩) (hj : gj S1 = .ok (.int n) S2) (hS2 : S2[i]? = some ⟨b1, some (k + 1, .lst xs)⟩)
    (ha : (k == 0 || d.atom) = true) (hi : ixN xs.length n = some j) : gSetIx i gx gj S = .ok .nx (S2.put i (some (k + 1, .lst (xs.set j d)))) := by
  unfold gSetIx
  simp only [hx, R.bind, hS1, hj, hS2, ha, if_true, hi]
theorem dr_pick (K : PySem.W.Frag) (ev : Ev) (ns : List Int) (found : List (List Int)) (hf : 0 < found.length) (v1 v2 v3 v4 v6 v7 : OV) :
    ∃ ns' l, ns'.length ≤ ns.length ∧ l ∈ found ∧ gSet 6 (gNew1 dList (gIxN 5 (gD (gCall (f_law_take K ev) (gArIo 0 (gArV (gApp1 dLen (gBor 5)) gArN)))))) (drS ns v1 v2 v3 v4 (some (1, sD found)) v6 v7) =
      .ok .nx (drS ns' v1 v2 v3 v4 (some (1, sD found)) (ol l) v7) := by
  obtain ⟨r, ns', h1, h2, h3, h4⟩ := dr_take K ev ns found.length (by omega)
  have hg : gApp1 dLen (gBor 5) (drS ns v1 v2 v3 v4 (some (1, sD found)) v6 v7) = .ok (.int (found.length : Nat)) (drS ns v1 v2 v3 v4 (some (1, sD found)) v6 v7) := gApp1_len (x := ⟨true, 1, sD found⟩) rfl (dLen_sD found)
  have h5 := gD_fz (h4 _ v1 v2 v3 v4 (some (1, sD found)) v6 v7 hg)
  obtain ⟨q, rfl⟩ := Int.eq_ofNat_of_zero_le h1
  have hq : q < found.length := by omega
  have hy : ixV ⟨true, 1, sD found⟩ (.int (q : Nat)) = some (.fzn (tI found[q])) := by simp [ixV, sD, atI_sD hq, elemV, Vl.fzn]
  have h6 := gIxN_eq (i := 5) (k := 1) (b := false) (b1 := false) (w := (1, sD found)) (c := sD found) rfl h5 rfl hy
  have h7 : gNew1 dList (gIxN 5 (gD (gCall (f_law_take K ev) (gArIo 0 (gArV (gApp1 dLen (gBor 5)) gArN))))) (drS ns v1 v2 v3 v4 (some (1, sD found)) v6 v7) = .ok ⟨false, 1, lI found[q]⟩ (drS ns' v1 v2 v3 v4 (some (1, sD found)) v6 v7) := by
    unfold gNew1; rw [h6]; rfl
  exact ⟨ns', found[q], h3, List.getElem_mem hq, (gSet_eq (v := v6) h7 rfl).trans rfl⟩
theorem dr_set (K : PySem.W.Frag) (ev : Ev) (ns l : List Int) (hl : 0 < l.length) (v2 v3 v4 v5 v7 : OV) :
    ∃ ns' l', ns'.length ≤ ns.length ∧ l'.length = l.length ∧ gSetIx 6 (gD (gCall (f_law_take K ev) (gArIo 0 (gArV (gC (.int (8))) gArN)))) (gD (gCall (f_law_take K ev) (gArIo 0 (gArV (gVar 1) gArN)))) (drS ns (oi l.length) v2 v3 v4 v5 (ol l) v7) =
      .ok .nx (drS ns' (oi l.length) v2 v3 v4 v5 (ol l') v7) := by
  obtain ⟨x, ns1, _, _, h3, h4⟩ := dr_take K ev ns 8 (by omega)
  have h5 := gD_fz (h4 (gC (.int 8)) (oi l.length) v2 v3 v4 v5 (ol l) v7 rfl)
  obtain ⟨r, ns2, g1, g2, g3, g4⟩ := dr_take K ev ns1 l.length (by omega)
  have g5 := gD_fz (g4 (gVar 1) (oi l.length) v2 v3 v4 v5 (ol l) v7 rfl)
  obtain ⟨q, rfl⟩ := Int.eq_ofNat_of_zero_le g1
  refine ⟨ns2, l.set q x, by omega, by simp, ?_⟩
  refine (gSetIx_eq (m := 0) (k := 0) (b := false) (b1 := false) (ys := l.map D.int) (xs := l.map D.int) h5 rfl g5 rfl rfl (ixN_nat (by simp; omega))).trans ?_
  have e2 : (l.map D.int).set q (.int x) = (l.set q x).map D.int := by simp [List.map_set]
  rw [e2]; rfl
theorem dr_zero (K : PySem.W.Frag) (ev : Ev) (ns l : List Int) (hl : 0 < l.length) (v1 v2 v3 v4 v5 v7 : OV) :
    ∃ ns' l', ns'.length ≤ ns.length ∧ l'.length = l.length ∧ gIfS (gBool (gOpV true (dEq false) (gCall (f_law_take K ev) (gArIo 0 (gArV (gC (.int (4))) gArN))) (gV (gC (.int (0))))))
  (gSetIx 6 (gD (gCall (f_law_take K ev) (gArIo 0 (gArV (gC (.int (8))) gArN)))) (gC (.int (0))))
  gNext (drS ns v1 v2 v3 v4 v5 (ol l) v7) = .ok .nx (drS ns' v1 v2 v3 v4 v5 (ol l') v7) := by
  obtain ⟨r, ns1, _, _, h3, h4⟩ := dr_take K ev ns 4 (by omega)
  have h5 := h4 (gC (.int 4)) v1 v2 v3 v4 v5 (ol l) v7 rfl
  have h6 : gBool (gOpV true (dEq false) (gCall (f_law_take K ev) (gArIo 0 (gArV (gC (.int (4))) gArN))) (gV (gC (.int (0))))) (drS ns v1 v2 v3 v4 v5 (ol l) v7) = .ok (r == 0) (drS ns1 v1 v2 v3 v4 v5 (ol l) v7) := by
    simp [gBool, gOpV, h5, gV, gC, R.bind, Vl.fzn, dEq_int]
  cases hb : (r == 0) with
  | false =>
    rw [hb] at h6
    exact ⟨ns1, l, h3, rfl, (gIfS_f h6).trans rfl⟩
  | true =>
    rw [hb] at h6
    obtain ⟨x, ns2, _, _, g3, g4⟩ := dr_take K ev ns1 8 (by omega)
    have g5 := gD_fz (g4 (gC (.int 8)) v1 v2 v3 v4 v5 (ol l) v7 rfl)
    refine ⟨ns2, l.set 0 x, by omega, by simp, (gIfS_t h6).trans ?_⟩
    refine (gSetIx_eq (m := 0) (k := 0) (b := false) (b1 := false) (ys := l.map D.int) (xs := l.map D.int) (n := 0) g5 rfl rfl rfl rfl (ixN_nat (r := 0) (by simpa using hl))).trans ?_
    have e2 : (l.map D.int).set 0 (.int x) = (l.set 0 x).map D.int := by simp [List.map_set]
    rw [e2]; rfl
end VL

set_option Elab.async false
set_option linter.all false
set_option autoImplicit false
set_option maxRecDepth 100000
namespace VL
open PySem PySem.Spec L2
open PyProof.Rows hiding St

theorem nub_nodup {α : Type} [DecidableEq α] {l : List α} (h : (nub l).length = l.length) : l.Nodup :=
  Classical.byContradiction fun hn => by have := (nub_lt l).mpr hn; omega
theorem cut_rot {l : List Int} {q : Nat} (h : q ≤ l.length) : cutD (l.map D.int) (some (q : Int)) none ++ cutD (l.map D.int) none (some (q : Int)) = (l.drop q ++ l.take q).map D.int := by
  rw [cutD_drop (by simpa using h), cutD_take (by simpa using h)]
  simp [List.map_drop, List.map_take]
theorem dr_app (K : PySem.W.Frag) (ev : Ev) (ns l : List Int) (hl : 0 < l.length) (hl2 : l.length ≤ 10) (found : List (List Int)) (hf : found.length ≤ 1000) (v2 v3 v4 : OV) (w7 : Option D) :
    ∃ ns' found' w7', ns'.length ≤ ns.length ∧ (found' = found ∨ ∃ r : List Int, found' = found ++ [r] ∧ r.Nodup ∧ r.length = l.length) ∧ gIfS (gBool (gOpV true (dEq false) (gV (gLenSet (gBor 6))) (gV (gVar 1))))
  (gThen (gSet 7 (gV (gD (gCall (f_law_take K ev) (gArIo 0 (gArV (gVar 1) gArN))))))
  (gDrop (gV (gApd 5 (gV (gTupOf (gNew2 true dCat (gSl true (gBor 6) (some (gVar 7)) none) (gSl true (gBor 6) none (some (gVar 7))))))))))
  gNext (drS ns (oi l.length) v2 v3 v4 (some (1, sD found)) (ol l) (ov w7)) = .ok .nx (drS ns' (oi l.length) v2 v3 v4 (some (1, sD found')) (ol l) (ov w7')) := by
  have h6 : gBool (gOpV true (dEq false) (gV (gLenSet (gBor 6))) (gV (gVar 1))) (drS ns (oi l.length) v2 v3 v4 (some (1, sD found)) (ol l) (ov w7)) = .ok (((nub l).length : Int) == (l.length : Int)) (drS ns (oi l.length) v2 v3 v4 (some (1, sD found)) (ol l) (ov w7)) := by
    have e1 : gLenSet (gBor 6) (drS ns (oi l.length) v2 v3 v4 (some (1, sD found)) (ol l) (ov w7)) = .ok (.int (nub l).length) (drS ns (oi l.length) v2 v3 v4 (some (1, sD found)) (ol l) (ov w7)) := by
      have e2 : gBor 6 (drS ns (oi l.length) v2 v3 v4 (some (1, sD found)) (ol l) (ov w7)) = .ok ⟨true, 1, lI l⟩ (drS ns (oi l.length) v2 v3 v4 (some (1, sD found)) (ol l) (ov w7)) := rfl
      simp [gLenSet, e2, R.bind, Vl.lev, dLenSet_ints l (by omega)]
    have e3 : gVar 1 (drS ns (oi l.length) v2 v3 v4 (some (1, sD found)) (ol l) (ov w7)) = .ok (.int (l.length : Nat)) (drS ns (oi l.length) v2 v3 v4 (some (1, sD found)) (ol l) (ov w7)) := rfl
    simp [gBool, gOpV, gV, e1, e3, R.bind, Vl.fzn, dEq_int]
  cases hb : (((nub l).length : Int) == (l.length : Int)) with
  | false =>
    rw [hb] at h6
    exact ⟨ns, found, w7, Nat.le_refl _, .inl rfl, (gIfS_f h6).trans rfl⟩
  | true =>
    rw [hb] at h6
    have hn : l.Nodup := nub_nodup (by have := eq_of_beq hb; omega)
    obtain ⟨r, ns1, g1, g2, g3, g4⟩ := dr_take K ev ns l.length (by omega)
    have g5 := gD_fz (g4 (gVar 1) (oi l.length) v2 v3 v4 (some (1, sD found)) (ol l) (ov w7) rfl)
    obtain ⟨q, rfl⟩ := Int.eq_ofNat_of_zero_le g1
    have hq : q ≤ l.length := by omega
    have h7 : gSet 7 (gV (gD (gCall (f_law_take K ev) (gArIo 0 (gArV (gVar 1) gArN))))) (drS ns (oi l.length) v2 v3 v4 (some (1, sD found)) (ol l) (ov w7)) = .ok .nx (drS ns1 (oi l.length) v2 v3 v4 (some (1, sD found)) (ol l) (oi q)) := by
      refine (gSet_eq (k := 0) (d := .int (q : Nat)) (v := ov w7) (S1 := drS ns1 (oi l.length) v2 v3 v4 (some (1, sD found)) (ol l) (ov w7)) ?_ rfl).trans rfl
      unfold gV; rw [g5]
    have hs1 : gSl true (gBor 6) (some (gVar 7)) none (drS ns1 (oi l.length) v2 v3 v4 (some (1, sD found)) (ol l) (oi q)) = .ok ⟨false, 1, .lst (cutD (l.map D.int) (some (q : Int)) none)⟩ (drS ns1 (oi l.length) v2 v3 v4 (some (1, sD found)) (ol l) (oi q)) := rfl
    have hs2 : gSl true (gBor 6) none (some (gVar 7)) (drS ns1 (oi l.length) v2 v3 v4 (some (1, sD found)) (ol l) (oi q)) = .ok ⟨false, 1, .lst (cutD (l.map D.int) none (some (q : Int)))⟩ (drS ns1 (oi l.length) v2 v3 v4 (some (1, sD found)) (ol l) (oi q)) := rfl
    have hcat : dCat (.lst (cutD (l.map D.int) (some (q : Int)) none)) (.lst (cutD (l.map D.int) none (some (q : Int)))) = some ((l.drop q ++ l.take q).map D.int) := by
      simp only [dCat, cut_rot hq]
      have : lineOk ((l.drop q ++ l.take q).map D.int) = true := by simp [lineOk]; omega
      rw [this]; rfl
    have ht : gV (gTupOf (gNew2 true dCat (gSl true (gBor 6) (some (gVar 7)) none) (gSl true (gBor 6) none (some (gVar 7))))) (drS ns1 (oi l.length) v2 v3 v4 (some (1, sD found)) (ol l) (oi q)) = .ok (.fzn (tI (l.drop q ++ l.take q))) (drS ns1 (oi l.length) v2 v3 v4 (some (1, sD found)) (ol l) (oi q)) := by
      unfold gV gTupOf gNew2
      simp only [hs1, hs2, R.bind, Vl.lev, hcat]
      rfl
    refine ⟨ns1, found ++ [l.drop q ++ l.take q], some (.int (q : Nat)), g3, .inr ⟨_, rfl, ?_, by simp; omega⟩, (gIfS_t h6).trans ((gThen_nx h7).trans ?_)⟩
    · have hp : (l.drop q ++ l.take q).Perm l := by
        have := List.perm_append_comm (l₁ := l.drop q) (l₂ := l.take q)
        rwa [List.take_append_drop] at this
      exact hp.nodup_iff.mpr hn
    · have hfl : found.length < 16777216 := by omega
      unfold gDrop gV gApd at *
      show (((gV (gTupOf (gNew2 true dCat (gSl true (gBor 6) (some (gVar 7)) none) (gSl true (gBor 6) none (some (gVar 7))))) (drS ns1 (oi l.length) v2 v3 v4 (some (1, sD found)) (ol l) (oi q))).bind _).bind _).bind _ = _
      unfold gV
      rw [ht]
      simp [R.bind, drS, sD, hfl, Sl.put, Vl.fzn]
end VL

set_option Elab.async false
set_option linter.all false
set_option autoImplicit false
set_option maxRecDepth 100000
namespace VL
open PySem PySem.Spec L2
open PyProof.Rows hiding St

/-- one turn of the second loop -/
theorem dr_turn (K : PySem.W.Frag) (ev : Ev) (ns : List Int) {n : Nat} (hn : 0 < n) (hn2 : n ≤ 10) (found : List (List Int)) (hf : 0 < found.length) (hf2 : found.length ≤ 1000) (hr : ∀ l ∈ found, l.Nodup ∧ l.length = n) (v2 v3 v4 v6 : OV) (w7 : Option D) :
    ∃ ns' found' l' w7', ns'.length ≤ ns.length ∧ 0 < found'.length ∧ found'.length ≤ found.length + 1 ∧ (∀ l ∈ found', l.Nodup ∧ l.length = n) ∧
  (gThen (gSet 6 (gNew1 dList (gIxN 5 (gD (gCall (f_law_take K ev) (gArIo 0 (gArV (gApp1 dLen (gBor 5)) gArN)))))))
  (gThen (gSetIx 6 (gD (gCall (f_law_take K ev) (gArIo 0 (gArV (gC (.int (8))) gArN)))) (gD (gCall (f_law_take K ev) (gArIo 0 (gArV (gVar 1) gArN)))))
  (gThen (gIfS (gBool (gOpV true (dEq false) (gCall (f_law_take K ev) (gArIo 0 (gArV (gC (.int (4))) gArN))) (gV (gC (.int (0))))))
  (gSetIx 6 (gD (gCall (f_law_take K ev) (gArIo 0 (gArV (gC (.int (8))) gArN)))) (gC (.int (0))))
  gNext)
  (gIfS (gBool (gOpV true (dEq false) (gV (gLenSet (gBor 6))) (gV (gVar 1))))
  (gThen (gSet 7 (gV (gD (gCall (f_law_take K ev) (gArIo 0 (gArV (gVar 1) gArN))))))
  (gDrop (gV (gApd 5 (gV (gTupOf (gNew2 true dCat (gSl true (gBor 6) (some (gVar 7)) none) (gSl true (gBor 6) none (some (gVar 7))))))))))
  gNext)))) (drS ns (oi n) v2 v3 v4 (some (1, sD found)) v6 (ov w7)) = .ok .nx (drS ns' (oi n) v2 v3 v4 (some (1, sD found')) (ol l') (ov w7')) := by
  obtain ⟨ns1, l1, a1, a2, a3⟩ := dr_pick K ev ns found hf (oi n) v2 v3 v4 v6 (ov w7)
  have a4 := (hr l1 a2).2
  obtain ⟨ns2, l2, b1, b2, b3⟩ := dr_set K ev ns1 l1 (by omega) v2 v3 v4 (some (1, sD found)) (ov w7)
  rw [a4] at b3
  obtain ⟨ns3, l3, c1, c2, c3⟩ := dr_zero K ev ns2 l2 (by omega) (oi n) v2 v3 v4 (some (1, sD found)) (ov w7)
  obtain ⟨ns4, found', w7', d1, d2, d3⟩ := dr_app K ev ns3 l3 (by omega) (by omega) found hf2 v2 v3 v4 w7
  rw [show l3.length = n by omega] at d3
  refine ⟨ns4, found', l3, w7', by omega, ?_, ?_, ?_, (gThen_nx a3).trans ((gThen_nx b3).trans ((gThen_nx c3).trans d3))⟩
  · rcases d2 with h | ⟨r, h, _⟩
    · rw [h]; exact hf
    · rw [h]; simp
  · rcases d2 with h | ⟨r, h, _⟩
    · rw [h]; omega
    · rw [h]; simp
  · rcases d2 with rfl | ⟨r, rfl, e1, e2⟩
    · exact hr
    · intro l hl
      rcases List.mem_append.mp hl with h | h
      · exact hr l h
      · rw [List.mem_singleton.mp h]; exact ⟨e1, by omega⟩
def eight : List Int := [0, 1, 2, 3, 4, 5, 6, 7]
theorem drawn_ok (K : PySem.W.Frag) (ev : Ev) (ns : List Int) :
    ∃ ns' sets n, ns'.length ≤ ns.length ∧ sets.length ≤ 7 ∧ n ≤ 4 ∧ (∀ l ∈ sets, l.Nodup ∧ l.length = n) ∧ f_law_drawn K ev [⟨true, some (1, lI ns)⟩] = .ok ⟨false, 1, sD sets⟩ [⟨true, some (1, lI ns')⟩] := by
  obtain ⟨r, ns1, a1, a2, a3, a4⟩ := dr_take K ev ns 4 (by omega)
  have a5 := gD_fz (a4 (gC (.int 4)) none none none none none none none rfl)
  obtain ⟨q, rfl⟩ := Int.eq_ofNat_of_zero_le a1
  have s1 : gSet 1 (gV (gOp dAdd (gC (.int (1))) (gD (gCall (f_law_take K ev) (gArIo 0 (gArV (gC (.int (4))) gArN)))))) (drS ns none none none none none none none) = .ok .nx (drS ns1 (oi (1 + q)) none none none none none none) := by
    refine (gSet_eq (k := 0) (d := .int ((1 + q : Nat) : Int)) (v := none) (S1 := drS ns1 none none none none none none none) ?_ rfl).trans rfl
    have : ((1 + q : Nat) : Int) = 1 + (q : Int) := by omega
    rw [this]
    simp [gV, gOp, gC, a5, R.bind, hI, Vl.fzn]
  have s2 : gSet 2 (gLRange (gC (.int (8)))) (drS ns1 (oi (1 + q)) none none none none none none) = .ok .nx (drS ns1 (oi (1 + q)) (ol eight) none none none none none) := rfl
  -- the first loop
  obtain ⟨S1, l1, ns2, left, first, w4, l2, l3, l4, rfl⟩ := loopFor_pre2 (c := fun k : Nat => D.int (k : Nat)) (ga := gaName 4) (gb := gDrop (gV (gApd 3 (gPopAt 2 (gD (gCall (f_law_take K ev) (gArIo 0 (gArV (gApp1 dLen (gBor 2)) gArN))))))))
    (fun p S => ∃ ms left first w4, ms.length ≤ ns.length ∧ (first ++ left).Perm eight ∧ first.length = p.length ∧ S = drS ms (oi (1 + q)) (ol left) (ol first) (ov w4) none none none)
    (L := List.range (1 + q)) (pre := []) (S := drS ns1 (oi (1 + q)) (ol eight) (ol []) none none none none) ⟨ns1, eight, [], none, a3, .refl _, rfl, rfl⟩ (by
      rintro k p q' S hk ⟨ms, left, first, w4, b1, b2, b3, rfl⟩
      have hl := congrArg List.length hk
      simp at hl
      have b4 := b2.length_eq
      simp [eight] at b4
      obtain ⟨ms', left', first', c1, c2, c3, c4⟩ := dr_first K ev ms left first (by omega) (by omega) (by omega) (oi (1 + q)) (oi k) none none none
      exact ⟨drS ms (oi (1 + q)) (ol left) (ol first) (oi k) none none none, _, rfl, .inl c4, ms', left', first', some (.int (k : Nat)), by omega, c2.trans b2, by simp; omega, rfl⟩)
  have hfn : first.Nodup := by
    have h8 : eight.Nodup := by decide
    have := l3.nodup_iff.mpr h8
    exact (List.nodup_append.mp this).1
  have hfl : first.length = 1 + q := by simpa using l4
  have f1 := gFor_eq (ga := gaName 4) (gb := gDrop (gV (gApd 3 (gPopAt 2 (gD (gCall (f_law_take K ev) (gArIo 0 (gArV (gApp1 dLen (gBor 2)) gArN)))))))) (gIt_range (n := 1 + q) (by omega) (g := gVar 1) (S := drS ns1 (oi (1 + q)) (ol eight) (ol []) none none none none) (S1 := drS ns1 (oi (1 + q)) (ol eight) (ol []) none none none none) rfl)
  have s5 : gSet 5 (gLst (gCons (gTupOf (gBor 3)) gNil)) (drS ns2 (oi (1 + q)) (ol left) (ol first) (ov w4) none none none) = .ok .nx (drS ns2 (oi (1 + q)) (ol left) (ol first) (ov w4) (some (1, sD [first])) none none) := rfl
  obtain ⟨m, ns3, d1, d2, d3, d4⟩ := dr_take K ev ns2 7 (by omega)
  have d5 := gD_fz (d4 (gC (.int 7)) (oi (1 + q)) (ol left) (ol first) (ov w4) (some (1, sD [first])) none none rfl)
  obtain ⟨m, rfl⟩ := Int.eq_ofNat_of_zero_le d1
  -- the second loop
  obtain ⟨S2, e1, ns4, found, w4', v6, w7, e2, e3, e4, e5, rfl⟩ := loopFor_pre2 (c := fun k : Nat => D.int (k : Nat)) (ga := gaName 4) (gb := (gThen (gSet 6 (gNew1 dList (gIxN 5 (gD (gCall (f_law_take K ev) (gArIo 0 (gArV (gApp1 dLen (gBor 5)) gArN)))))))
  (gThen (gSetIx 6 (gD (gCall (f_law_take K ev) (gArIo 0 (gArV (gC (.int (8))) gArN)))) (gD (gCall (f_law_take K ev) (gArIo 0 (gArV (gVar 1) gArN)))))
  (gThen (gIfS (gBool (gOpV true (dEq false) (gCall (f_law_take K ev) (gArIo 0 (gArV (gC (.int (4))) gArN))) (gV (gC (.int (0))))))
  (gSetIx 6 (gD (gCall (f_law_take K ev) (gArIo 0 (gArV (gC (.int (8))) gArN)))) (gC (.int (0))))
  gNext)
  (gIfS (gBool (gOpV true (dEq false) (gV (gLenSet (gBor 6))) (gV (gVar 1))))
  (gThen (gSet 7 (gV (gD (gCall (f_law_take K ev) (gArIo 0 (gArV (gVar 1) gArN))))))
  (gDrop (gV (gApd 5 (gV (gTupOf (gNew2 true dCat (gSl true (gBor 6) (some (gVar 7)) none) (gSl true (gBor 6) none (some (gVar 7))))))))))
  gNext)))))
    (fun p S => ∃ ms found w4 v6 w7, ms.length ≤ ns.length ∧ 0 < found.length ∧ found.length ≤ 1 + p.length ∧ (∀ l ∈ found, l.Nodup ∧ l.length = 1 + q) ∧ S = drS ms (oi (1 + q)) (ol left) (ol first) (ov w4) (some (1, sD found)) v6 (ov w7))
    (L := List.range m) (pre := []) (S := drS ns3 (oi (1 + q)) (ol left) (ol first) (ov w4) (some (1, sD [first])) none none) ⟨ns3, [first], w4, none, none, by omega, by simp, by simp, by simp [hfn, hfl], rfl⟩ (by
      rintro k p q' S hk ⟨ms, found, w4, v6, w7, b1, b2, b3, b4, rfl⟩
      have hl := congrArg List.length hk
      simp at hl
      obtain ⟨ms', found', l', w7', c1, c2, c3, c4, c5⟩ := dr_turn K ev ms (n := 1 + q) (by omega) (by omega) found b2 (by omega) b4 (ol left) (ol first) (oi k) v6 w7
      exact ⟨drS ms (oi (1 + q)) (ol left) (ol first) (oi k) (some (1, sD found)) v6 (ov w7), _, rfl, .inl c5, ms', found', some (.int (k : Nat)), ol l', w7', by omega, c2, by simp; omega, c4, rfl⟩)
  refine ⟨ns4, found, 1 + q, e2, by simp at e4; omega, by omega, e5, ?_⟩
  have main : g_law_drawn K ev (drS ns none none none none none none none) = .ok (.rt ⟨false, 1, sD found⟩) (drS ns4 (oi (1 + q)) (ol left) (ol first) (ov w4') none v6 (ov w7)) := by
    unfold g_law_drawn
    refine (gThen_nx s1).trans ((gThen_nx s2).trans ((gThen_nx (S1 := drS ns1 (oi (1 + q)) (ol eight) (ol []) none none none none) rfl).trans ((gThen_nx (f1.trans l1)).trans ((gThen_nx s5).trans ((gThen_nx ((gFor_eq (gIt_range (n := m) (by omega) d5)).trans e1)).trans rfl)))))
  exact (fnSem_rt (n := 1) (m := 7) (T := [⟨true, some (1, lI ns)⟩]) main (by simp [drS])).trans rfl
end VL

set_option Elab.async false
set_option linter.all false
set_option autoImplicit false
set_option maxRecDepth 100000
namespace VL
open PySem PySem.Spec L2
open PyProof.Rows hiding St

noncomputable def lwHomes (K : PySem.W.Frag) (ev : Ev) : Sl → R Out :=
    (gThen (gSet 10 (gV (gD (gLc true [(11 : Nat)] (gIt dRange1 (gCons (gApp1 dLen (gV (gVar 3))) gNil)) (gaName 11) (gAnd (gTru (gCallP (f_law_within K ev) (gArV (gD (gIxN 6 (gVar 11))) (gArV (gVar 7) gArN)))) (gTru (gCallP (f_law_within K ev) (gArV (gVar 7) (gArV (gD (gIxN 3 (gVar 11))) gArN))))) (gVar 11)))))
  (gIfS (gBool (gOpV true (dEq true) (gV (gApp1 dLen (gV (gVar 10)))) (gV (gC (.int (1))))))
  (gRet (gV (gC (.bl false))))
  gNext))
noncomputable def lwHand (K : PySem.W.Frag) (ev : Ev) (a dd : Addr) : Sl → R Out :=
    (gThen (gIfS (gOr (gTru (gV (gVar 5))) (gBool (gOpV true (dEq true) (gV (gExc a dd 9)) (gV (gC (.str "shelling"))))))
  (gRet (gV (gC (.bl false))))
  gNext)
  gCont)
noncomputable def lwTurn (K : PySem.W.Frag) (ev : Ev) : Sl → R Out :=
    (gThen (gSet 3 (gV (gD (gCall (f_law_drawn K ev) (gArIo 1 gArN)))))
  (gThen (gSet 4 (gV (gD (gNew1 dList (gV (gVar 3))))))
  (gThen (gSet 5 (gV (gD (gCallP (f_law_shells K ev) (gArV (gVar 3) gArN)))))
  (gThen (gIfS (gBool (gOpV true (dEq true) (gCallP (f_law_plain K ev 6) (gArV (gD (gCallP (f_is_shelling K ev) (gArV (gVar 4) gArN))) gArN)) (gCallP (f_law_plain K ev 6) (gArV (gVar 5) gArN))))
  (gRet (gV (gC (.bl false))))
  gNext)
  (gThen (gTry ev.cInvalidOrder [] 9 (gSet 8 (gV (gD (gCallP (f_fresh_parts K ev) (gArV (gVar 4) gArN)))))
  (fun a dd => (gThen (gIfS (gOr (gTru (gV (gVar 5))) (gBool (gOpV true (dEq true) (gV (gExc a dd 9)) (gV (gC (.str "shelling"))))))
  (gRet (gV (gC (.bl false))))
  gNext)
  gCont)))
  (gThen (gSet 6 (gV (gD (gCallP (f_law_fresh K ev) (gArV (gVar 3) gArN)))))
  (gThen (gIfS (gOr (gNot (gTru (gV (gVar 5)))) (gOr (gBool (gOpV true (dEq true) (gCallP (f_law_plain K ev 6) (gArV (gVar 8) gArN)) (gCallP (f_law_plain K ev 6) (gArV (gVar 6) gArN)))) (gBool (gOpV true (dEq true) (gV (gVar 4)) (gV (gVar 3))))))
  (gRet (gV (gC (.bl false))))
  gNext)
  (gFor (gSeq false (gCallP (f_law_all_within K ev) (gArV (gVar 3) gArN))) (gaName 7)
  (gThen (gSet 10 (gV (gD (gLc true [(11 : Nat)] (gIt dRange1 (gCons (gApp1 dLen (gV (gVar 3))) gNil)) (gaName 11) (gAnd (gTru (gCallP (f_law_within K ev) (gArV (gD (gIxN 6 (gVar 11))) (gArV (gVar 7) gArN)))) (gTru (gCallP (f_law_within K ev) (gArV (gVar 7) (gArV (gD (gIxN 3 (gVar 11))) gArN))))) (gVar 11)))))
  (gIfS (gBool (gOpV true (dEq true) (gV (gApp1 dLen (gV (gVar 10)))) (gV (gC (.int (1))))))
  (gRet (gV (gC (.bl false))))
  gNext))))))))))
def lwS (s : D) (ms : List Int) (v2 v3 v4 v5 v6 v7 v8 v9 v10 : OV) (w11 : Option D) : Sl := [⟨false, some (0, s)⟩, ⟨false, some (1, lI ms)⟩, ⟨false, v2⟩, ⟨false, v3⟩, ⟨false, v4⟩, ⟨false, v5⟩, ⟨false, v6⟩, ⟨false, v7⟩, ⟨false, v8⟩, ⟨false, v9⟩, ⟨false, v10⟩, ⟨false, ov w11⟩]
theorem f_ix {L : List (List Int)} {a : Nat} (ha : a < L.length) {i : Nat} {S : Sl} {v : OV} (h1 : S[i]? = some ⟨false, some (0, sD L)⟩) (h2 : S[11]? = some ⟨false, oi a⟩) : gD (gIxN i (gVar 11)) S = .ok (tI L[a]) S :=
  gD_fz (gIxN_eq (j := .int (a : Nat)) h1 (by unfold gVar; rw [h2]) h1 (ix_sD ha true))
theorem lw_homes (K : PySem.W.Frag) (ev : Ev) (s : D) (ms : List Int) {sets : List (List Int)} (hs : sets.length < 64) (hl : ∀ l ∈ sets, l.length ≤ 10) (hb : isShell sets = true) {row : List Int} (hr : ∃ one ∈ sets, ∀ x ∈ row, x ∈ one) (hrl : row.length ≤ 1000) (v2 v4 v5 v8 v10 : OV) (w11 : Option D) :
    ∃ v10', lwHomes K ev (lwS s ms v2 (od (sD sets)) v4 v5 (od (sD (freshes sets))) (od (tI row)) v8 none v10 w11) = .ok .nx (lwS s ms v2 (od (sD sets)) v4 v5 (od (sD (freshes sets))) (od (tI row)) v8 none v10' w11) := by
  have hfl : (freshes sets).length = sets.length := by simp [freshes]
  have hw : wipeOk [11] (lwS s ms v2 (od (sD sets)) v4 v5 (od (sD (freshes sets))) (od (tI row)) v8 none v10 w11) = true := by cases w11 <;> rfl
  have hi : gIt dRange1 (gCons (gApp1 dLen (gV (gVar 3))) gNil) (lwS s ms v2 (od (sD sets)) v4 v5 (od (sD (freshes sets))) (od (tI row)) v8 none v10 w11) = .ok ((List.range sets.length).map fun i : Nat => D.int (i : Nat)) (lwS s ms v2 (od (sD sets)) v4 v5 (od (sD (freshes sets))) (od (tI row)) v8 none v10 w11) :=
    gIt_range (by omega) (gApp1_len (x := .fzn (sD sets)) rfl (dLen_sD sets))
  have hc := gLc_map (vs := [11]) (v := 11) (gt := gAnd (gTru (gCallP (f_law_within K ev) (gArV (gD (gIxN 6 (gVar 11))) (gArV (gVar 7) gArN)))) (gTru (gCallP (f_law_within K ev) (gArV (gVar 7) (gArV (gD (gIxN 3 (gVar 11))) gArN))))) (ge := gVar 11)
    (fun i : Nat => D.int (i : Nat)) (isHome sets row) (fun i : Nat => D.int (i : Nat)) hi hw (by simp; omega) rfl (fun a ha => by
      have ha' := List.mem_range.mp ha
      have hla : sets[a].length ≤ 10 := hl _ (List.getElem_mem ha')
      have hst : ((lwS s ms v2 (od (sD sets)) v4 v5 (od (sD (freshes sets))) (od (tI row)) v8 none v10 w11).wipe [11]).put 11 (some (0, .int (a : Nat))) = lwS s ms v2 (od (sD sets)) v4 v5 (od (sD (freshes sets))) (od (tI row)) v8 none v10 (some (.int (a : Nat))) := rfl
      rw [hst]
      have x6 := f_ix (L := freshes sets) (a := a) (by omega) (i := 6) (S := lwS s ms v2 (od (sD sets)) v4 v5 (od (sD (freshes sets))) (od (tI row)) v8 none v10 (some (.int (a : Nat)))) (v := none) rfl rfl
      have x3 := f_ix (L := sets) (a := a) ha' (i := 3) (S := lwS s ms v2 (od (sD sets)) v4 v5 (od (sD (freshes sets))) (od (tI row)) v8 none v10 (some (.int (a : Nat)))) (v := none) rfl rfl
      have ef : (freshes sets)[a]'(by omega) = freshOf sets a := by simp [freshes]
      have flen : (freshOf sets a).length ≤ 10 := by
        have := List.length_filter_le (isFresh sets a (at' sets a)) (at' sets a)
        rw [at'_eq ha'] at this
        unfold freshOf
        rw [at'_eq ha']; omega
      have c1 : gCallP (f_law_within K ev) (gArV (gD (gIxN 6 (gVar 11))) (gArV (gVar 7) gArN)) (lwS s ms v2 (od (sD sets)) v4 v5 (od (sD (freshes sets))) (od (tI row)) v8 none v10 (some (.int (a : Nat)))) = .ok (.fzn (.bl (subB (freshOf sets a) row))) (lwS s ms v2 (od (sD sets)) v4 v5 (od (sD (freshes sets))) (od (tI row)) v8 none v10 (some (.int (a : Nat)))) := by
        refine gCallP_eq (as := [.v (tI (freshOf sets a)), .v (tI row)]) ?_ rfl rfl (within_ok K ev (.inl rfl) (.inl rfl) (by omega))
        rw [ef] at x6
        have e7 : gVar 7 (lwS s ms v2 (od (sD sets)) v4 v5 (od (sD (freshes sets))) (od (tI row)) v8 none v10 (some (.int (a : Nat)))) = .ok (tI row) (lwS s ms v2 (od (sD sets)) v4 v5 (od (sD (freshes sets))) (od (tI row)) v8 none v10 (some (.int (a : Nat)))) := rfl
        simp only [gArV, gArN, x6, R.bind, e7]
      have c2 : gCallP (f_law_within K ev) (gArV (gVar 7) (gArV (gD (gIxN 3 (gVar 11))) gArN)) (lwS s ms v2 (od (sD sets)) v4 v5 (od (sD (freshes sets))) (od (tI row)) v8 none v10 (some (.int (a : Nat)))) = .ok (.fzn (.bl (subB row (at' sets a)))) (lwS s ms v2 (od (sD sets)) v4 v5 (od (sD (freshes sets))) (od (tI row)) v8 none v10 (some (.int (a : Nat)))) := by
        refine gCallP_eq (as := [.v (tI row), .v (tI (at' sets a))]) ?_ rfl rfl (within_ok K ev (.inl rfl) (.inl rfl) (by omega))
        rw [at'_eq ha']
        have e7 : gVar 7 (lwS s ms v2 (od (sD sets)) v4 v5 (od (sD (freshes sets))) (od (tI row)) v8 none v10 (some (.int (a : Nat)))) = .ok (tI row) (lwS s ms v2 (od (sD sets)) v4 v5 (od (sD (freshes sets))) (od (tI row)) v8 none v10 (some (.int (a : Nat)))) := rfl
        simp only [gArV, gArN, e7, x3, R.bind]
      refine ⟨?_, fun _ => ⟨_, rfl⟩⟩
      simp only [gAnd, gTru, c1, c2, R.bind, Vl.fzn, truD, isHome]
      cases subB (freshOf sets a) row <;> rfl)
  have hcnt := one_home hb hr
  refine ⟨od (.lst (((List.range sets.length).filter (isHome sets row)).map fun i : Nat => D.int (i : Nat))), ?_⟩
  unfold lwHomes
  refine (gThen_nx (S1 := lwS s ms v2 (od (sD sets)) v4 v5 (od (sD (freshes sets))) (od (tI row)) v8 none (od (.lst (((List.range sets.length).filter (isHome sets row)).map fun i : Nat => D.int (i : Nat)))) w11) ((gSet_eq (gFz_eq hc) rfl).trans rfl)).trans ((gIfS_f (S1 := lwS s ms v2 (od (sD sets)) v4 v5 (od (sD (freshes sets))) (od (tI row)) v8 none (od (.lst (((List.range sets.length).filter (isHome sets row)).map fun i : Nat => D.int (i : Nat)))) w11) ?_).trans rfl)
  have hg : gApp1 dLen (gV (gVar 10)) (lwS s ms v2 (od (sD sets)) v4 v5 (od (sD (freshes sets))) (od (tI row)) v8 none (od (.lst (((List.range sets.length).filter (isHome sets row)).map fun i : Nat => D.int (i : Nat)))) w11) = .ok (.int 1) (lwS s ms v2 (od (sD sets)) v4 v5 (od (sD (freshes sets))) (od (tI row)) v8 none (od (.lst (((List.range sets.length).filter (isHome sets row)).map fun i : Nat => D.int (i : Nat)))) w11) :=
    gApp1_len (n := 1) (x := .fzn (.lst (((List.range sets.length).filter (isHome sets row)).map fun i : Nat => D.int (i : Nat)))) rfl (by rw [dLen_lst, List.length_map, hcnt])
  have hd : dEq true (.int 1) (.int 1) = some (.bl false) := by rw [dEq_int]; rfl
  simp only [gBool, gOpV, gV, hg, R.bind, gC, Vl.fzn, hd]
  rfl

theorem lw_drawn (K : PySem.W.Frag) (ev : Ev) (s : D) (ms ms' : List Int) (sets : List (List Int)) (v2 v3 v4 v5 v6 v7 v8 v10 : OV) (w11 : Option D)
    (h : f_law_drawn K ev [⟨true, some (1, lI ms)⟩] = .ok ⟨false, 1, sD sets⟩ [⟨true, some (1, lI ms')⟩]) :
    gSet 3 (gV (gD (gCall (f_law_drawn K ev) (gArIo 1 gArN)))) (lwS s ms v2 v3 v4 v5 v6 v7 v8 none v10 w11) = .ok .nx (lwS s ms' v2 (od (sD sets)) v4 v5 v6 v7 v8 none v10 w11) := by
  have ha : gArIo 1 gArN (lwS s ms v2 v3 v4 v5 v6 v7 v8 none v10 w11) = .ok [.io 1] (lwS s ms v2 v3 v4 v5 v6 v7 v8 none v10 w11) := rfl
  have hT : argSl [Ar.io 1] (lwS s ms v2 v3 v4 v5 v6 v7 v8 none v10 w11) = some [⟨true, some (1, lI ms)⟩] := rfl
  have hc : gCall (f_law_drawn K ev) (gArIo 1 gArN) (lwS s ms v2 v3 v4 v5 v6 v7 v8 none v10 w11) = .ok ⟨false, 1, sD sets⟩ (lwS s ms' v2 v3 v4 v5 v6 v7 v8 none v10 w11) := by
    have hok : okIo [Ar.io 1] = true := rfl
    simp only [gCall, ha, R.bind, hok, if_true, hT, h]
    rfl
  exact (gSet_eq (gFz_eq hc) rfl).trans rfl
theorem lw_turn (K : PySem.W.Frag) (ev : Ev) (s : D) (ms : List Int) (v2 v3 v4 v5 v6 v7 v8 v10 : OV) (w11 : Option D) :
    ∃ ms' v3' v4' v5' v6' v7' v8' v10' w11', (lwTurn K ev (lwS s ms v2 v3 v4 v5 v6 v7 v8 none v10 w11) = .ok .nx (lwS s ms' v2 v3' v4' v5' v6' v7' v8' none v10' w11') ∨ lwTurn K ev (lwS s ms v2 v3 v4 v5 v6 v7 v8 none v10 w11) = .ok .ct (lwS s ms' v2 v3' v4' v5' v6' v7' v8' none v10' w11')) := by
  obtain ⟨ms', sets, n, h1, h2, h3, h4, h5⟩ := drawn_ok K ev ms
  have hs : sets.length < 64 := by omega
  have hl10 : ∀ l ∈ sets, l.length ≤ 10 := fun l hl => by have := (h4 l hl).2; omega
  have hl : ∀ l ∈ sets, l.length ≤ 1000 := fun l hl => by have := hl10 l hl; omega
  have a1 := lw_drawn K ev s ms ms' sets v2 v3 v4 v5 v6 v7 v8 v10 w11 h5
  have a2 : gSet 4 (gV (gD (gNew1 dList (gV (gVar 3))))) (lwS s ms' v2 (od (sD sets)) v4 v5 v6 v7 v8 none v10 w11) = .ok .nx (lwS s ms' v2 (od (sD sets)) (od (sD sets)) v5 v6 v7 v8 none v10 w11) := rfl
  obtain ⟨T1, b1⟩ := shells_ok K ev hs hl
  have hq := isShell_eq (sets := sets) (n := n) h4
  rw [← hq] at b1
  have a3 : gSet 5 (gV (gD (gCallP (f_law_shells K ev) (gArV (gVar 3) gArN)))) (lwS s ms' v2 (od (sD sets)) (od (sD sets)) v5 v6 v7 v8 none v10 w11) = .ok .nx (lwS s ms' v2 (od (sD sets)) (od (sD sets)) (od (.bl (isShell sets))) v6 v7 v8 none v10 w11) := by
    have hc : gCallP (f_law_shells K ev) (gArV (gVar 3) gArN) (lwS s ms' v2 (od (sD sets)) (od (sD sets)) v5 v6 v7 v8 none v10 w11) = .ok (.fzn (.bl (isShell sets))) (lwS s ms' v2 (od (sD sets)) (od (sD sets)) v5 v6 v7 v8 none v10 w11) :=
      gCallP_eq (as := [.v (sD sets)]) rfl rfl rfl b1
    exact (gSet_eq (gFz_eq hc) rfl).trans rfl
  obtain ⟨T2, b2⟩ := is_ok K ev hs hl
  obtain ⟨z, T3, b3⟩ := plain_bool K ev (isShell sets)
  have a4 : gIfS (gBool (gOpV true (dEq true) (gCallP (f_law_plain K ev 6) (gArV (gD (gCallP (f_is_shelling K ev) (gArV (gVar 4) gArN))) gArN)) (gCallP (f_law_plain K ev 6) (gArV (gVar 5) gArN))))
      (gRet (gV (gC (.bl false)))) gNext (lwS s ms' v2 (od (sD sets)) (od (sD sets)) (od (.bl (isShell sets))) v6 v7 v8 none v10 w11) = .ok .nx (lwS s ms' v2 (od (sD sets)) (od (sD sets)) (od (.bl (isShell sets))) v6 v7 v8 none v10 w11) := by
    have hc : gCallP (f_is_shelling K ev) (gArV (gVar 4) gArN) (lwS s ms' v2 (od (sD sets)) (od (sD sets)) (od (.bl (isShell sets))) v6 v7 v8 none v10 w11) = .ok (.fzn (.bl (isShell sets))) (lwS s ms' v2 (od (sD sets)) (od (sD sets)) (od (.bl (isShell sets))) v6 v7 v8 none v10 w11) :=
      gCallP_eq (as := [.v (sD sets)]) rfl rfl rfl b2
    have c1 : gCallP (f_law_plain K ev 6) (gArV (gD (gCallP (f_is_shelling K ev) (gArV (gVar 4) gArN))) gArN) (lwS s ms' v2 (od (sD sets)) (od (sD sets)) (od (.bl (isShell sets))) v6 v7 v8 none v10 w11) = .ok ⟨false, 0, .str z⟩ (lwS s ms' v2 (od (sD sets)) (od (sD sets)) (od (.bl (isShell sets))) v6 v7 v8 none v10 w11) := by
      refine gCallP_eq (as := [.v (.bl (isShell sets))]) ?_ rfl rfl b3
      simp only [gArV, gArN, gD_fz hc, R.bind]
    have c2 : gCallP (f_law_plain K ev 6) (gArV (gVar 5) gArN) (lwS s ms' v2 (od (sD sets)) (od (sD sets)) (od (.bl (isShell sets))) v6 v7 v8 none v10 w11) = .ok ⟨false, 0, .str z⟩ (lwS s ms' v2 (od (sD sets)) (od (sD sets)) (od (.bl (isShell sets))) v6 v7 v8 none v10 w11) :=
      gCallP_eq (as := [.v (.bl (isShell sets))]) rfl rfl rfl b3
    refine (gIfS_f (S1 := lwS s ms' v2 (od (sD sets)) (od (sD sets)) (od (.bl (isShell sets))) v6 v7 v8 none v10 w11) ?_).trans rfl
    simp [gBool, gOpV, c1, c2, R.bind, dEq_str]
  cases hb : isShell sets with
  | false =>
    rw [hb] at a3 a4
    obtain ⟨T4, b4⟩ := fresh_err K ev hs hl hb
    have hc : gCallP (f_fresh_parts K ev) (gArV (gVar 4) gArN) (lwS s ms' v2 (od (sD sets)) (od (sD sets)) (od (.bl false)) v6 v7 v8 none v10 w11) = .err ev.cInvalidOrder (some ("what", .str "shelling")) (lwS s ms' v2 (od (sD sets)) (od (sD sets)) (od (.bl false)) v6 v7 v8 none v10 w11) := by
      have ha : gArV (gVar 4) gArN (lwS s ms' v2 (od (sD sets)) (od (sD sets)) (od (.bl false)) v6 v7 v8 none v10 w11) = .ok [.v (sD sets)] (lwS s ms' v2 (od (sD sets)) (od (sD sets)) (od (.bl false)) v6 v7 v8 none v10 w11) := rfl
      have hT : argSl [Ar.v (sD sets)] (lwS s ms' v2 (od (sD sets)) (od (sD sets)) (od (.bl false)) v6 v7 v8 none v10 w11) = some [⟨false, some (0, sD sets)⟩] := rfl
      have hok : allV [Ar.v (sD sets)] = true := rfl
      simp only [gCallP, ha, R.bind, hok, if_true, hT, b4]
    have hset : gSet 8 (gV (gD (gCallP (f_fresh_parts K ev) (gArV (gVar 4) gArN)))) (lwS s ms' v2 (od (sD sets)) (od (sD sets)) (od (.bl false)) v6 v7 v8 none v10 w11) = .err ev.cInvalidOrder (some ("what", .str "shelling")) (lwS s ms' v2 (od (sD sets)) (od (sD sets)) (od (.bl false)) v6 v7 v8 none v10 w11) := by
      simp only [gSet, gV, gD, hc, R.bind]
    have htry : gTry ev.cInvalidOrder [] 9 (gSet 8 (gV (gD (gCallP (f_fresh_parts K ev) (gArV (gVar 4) gArN))))) (fun a dd => lwHand K ev a dd) (lwS s ms' v2 (od (sD sets)) (od (sD sets)) (od (.bl false)) v6 v7 v8 none v10 w11) = .ok .ct (lwS s ms' v2 (od (sD sets)) (od (sD sets)) (od (.bl false)) v6 v7 v8 none v10 w11) := by
      unfold gTry
      rw [hset]
      simp only [if_true]
      show tryPick _ 9 = _
      refine tryPick_eq fun a dd => ?_
      have hh : lwHand K ev a dd (lwS s ms' v2 (od (sD sets)) (od (sD sets)) (od (.bl false)) v6 v7 v8 (some (0, .exc a dd "what" (.str "shelling"))) v10 w11) = .ok .ct (lwS s ms' v2 (od (sD sets)) (od (sD sets)) (od (.bl false)) v6 v7 v8 (some (0, .exc a dd "what" (.str "shelling"))) v10 w11) := by
        unfold lwHand
        refine (gThen_nx ((gIfS_f (S1 := lwS s ms' v2 (od (sD sets)) (od (sD sets)) (od (.bl false)) v6 v7 v8 (some (0, .exc a dd "what" (.str "shelling"))) v10 w11) ?_).trans rfl)).trans rfl
        have e1 : gTru (gV (gVar 5)) (lwS s ms' v2 (od (sD sets)) (od (sD sets)) (od (.bl false)) v6 v7 v8 (some (0, .exc a dd "what" (.str "shelling"))) v10 w11) = .ok false (lwS s ms' v2 (od (sD sets)) (od (sD sets)) (od (.bl false)) v6 v7 v8 (some (0, .exc a dd "what" (.str "shelling"))) v10 w11) := rfl
        have e2 : gExc a dd 9 (lwS s ms' v2 (od (sD sets)) (od (sD sets)) (od (.bl false)) v6 v7 v8 (some (0, .exc a dd "what" (.str "shelling"))) v10 w11) = .ok (.str "shelling") (lwS s ms' v2 (od (sD sets)) (od (sD sets)) (od (.bl false)) v6 v7 v8 (some (0, .exc a dd "what" (.str "shelling"))) v10 w11) := by
          simp [gExc, lwS]
        simp [gOr, e1, R.bind, gBool, gOpV, gV, e2, gC, Vl.fzn, dEq_str]
      have hp : (lwS s ms' v2 (od (sD sets)) (od (sD sets)) (od (.bl false)) v6 v7 v8 none v10 w11).put 9 (some (0, .exc a dd "what" (.str "shelling"))) = lwS s ms' v2 (od (sD sets)) (od (sD sets)) (od (.bl false)) v6 v7 v8 (some (0, .exc a dd "what" (.str "shelling"))) v10 w11 := rfl
      rw [hp, hh]
      rfl
    refine ⟨ms', od (sD sets), od (sD sets), od (.bl false), v6, v7, v8, v10, w11, .inr ?_⟩
    unfold lwTurn
    exact (gThen_nx a1).trans ((gThen_nx a2).trans ((gThen_nx a3).trans ((gThen_nx a4).trans (gThen_ct htry))))
  | true =>
    rw [hb] at a3 a4
    obtain ⟨T4, b4⟩ := fresh_ok K ev hs hl hb
    have hc : gCallP (f_fresh_parts K ev) (gArV (gVar 4) gArN) (lwS s ms' v2 (od (sD sets)) (od (sD sets)) (od (.bl true)) v6 v7 v8 none v10 w11) = .ok ⟨false, 1, sD (freshes sets)⟩ (lwS s ms' v2 (od (sD sets)) (od (sD sets)) (od (.bl true)) v6 v7 v8 none v10 w11) :=
      gCallP_eq (as := [.v (sD sets)]) rfl rfl rfl b4
    have hset : gSet 8 (gV (gD (gCallP (f_fresh_parts K ev) (gArV (gVar 4) gArN)))) (lwS s ms' v2 (od (sD sets)) (od (sD sets)) (od (.bl true)) v6 v7 v8 none v10 w11) = .ok .nx (lwS s ms' v2 (od (sD sets)) (od (sD sets)) (od (.bl true)) v6 v7 (od (sD (freshes sets))) none v10 w11) :=
      (gSet_eq (gFz_eq hc) rfl).trans rfl
    have htry : gTry ev.cInvalidOrder [] 9 (gSet 8 (gV (gD (gCallP (f_fresh_parts K ev) (gArV (gVar 4) gArN))))) (fun a dd => lwHand K ev a dd) (lwS s ms' v2 (od (sD sets)) (od (sD sets)) (od (.bl true)) v6 v7 v8 none v10 w11) = .ok .nx (lwS s ms' v2 (od (sD sets)) (od (sD sets)) (od (.bl true)) v6 v7 (od (sD (freshes sets))) none v10 w11) := by
      unfold gTry
      rw [hset]
    obtain ⟨T5, b5⟩ := lawfresh_ok K ev hs hl
    have a6 : gSet 6 (gV (gD (gCallP (f_law_fresh K ev) (gArV (gVar 3) gArN)))) (lwS s ms' v2 (od (sD sets)) (od (sD sets)) (od (.bl true)) v6 v7 (od (sD (freshes sets))) none v10 w11) = .ok .nx (lwS s ms' v2 (od (sD sets)) (od (sD sets)) (od (.bl true)) (od (sD (freshes sets))) v7 (od (sD (freshes sets))) none v10 w11) := by
      have hc : gCallP (f_law_fresh K ev) (gArV (gVar 3) gArN) (lwS s ms' v2 (od (sD sets)) (od (sD sets)) (od (.bl true)) v6 v7 (od (sD (freshes sets))) none v10 w11) = .ok ⟨false, 1, sD (freshes sets)⟩ (lwS s ms' v2 (od (sD sets)) (od (sD sets)) (od (.bl true)) v6 v7 (od (sD (freshes sets))) none v10 w11) :=
        gCallP_eq (as := [.v (sD sets)]) rfl rfl rfl b5
      exact (gSet_eq (gFz_eq hc) rfl).trans rfl
    have hfl : (freshes sets).length ≤ 1000 := by simp [freshes]; omega
    have hfl2 : ∀ l ∈ freshes sets, l.length ≤ 1000 := by
      intro l hl'
      obtain ⟨k, hk, rfl⟩ := List.mem_map.mp hl'
      have hk' := List.mem_range.mp hk
      have := List.length_filter_le (isFresh sets k (at' sets k)) (at' sets k)
      unfold freshOf
      rw [at'_eq hk'] at this ⊢
      have := hl _ (List.getElem_mem hk')
      omega
    obtain ⟨T6, b6⟩ := plain_rows K ev (freshes sets) hfl hfl2
    have a7 : gIfS (gOr (gNot (gTru (gV (gVar 5)))) (gOr (gBool (gOpV true (dEq true) (gCallP (f_law_plain K ev 6) (gArV (gVar 8) gArN)) (gCallP (f_law_plain K ev 6) (gArV (gVar 6) gArN)))) (gBool (gOpV true (dEq true) (gV (gVar 4)) (gV (gVar 3))))))
      (gRet (gV (gC (.bl false)))) gNext (lwS s ms' v2 (od (sD sets)) (od (sD sets)) (od (.bl true)) (od (sD (freshes sets))) v7 (od (sD (freshes sets))) none v10 w11) = .ok .nx (lwS s ms' v2 (od (sD sets)) (od (sD sets)) (od (.bl true)) (od (sD (freshes sets))) v7 (od (sD (freshes sets))) none v10 w11) := by
      have c1 : gCallP (f_law_plain K ev 6) (gArV (gVar 8) gArN) (lwS s ms' v2 (od (sD sets)) (od (sD sets)) (od (.bl true)) (od (sD (freshes sets))) v7 (od (sD (freshes sets))) none v10 w11) = .ok ⟨false, 1, plS (freshes sets)⟩ (lwS s ms' v2 (od (sD sets)) (od (sD sets)) (od (.bl true)) (od (sD (freshes sets))) v7 (od (sD (freshes sets))) none v10 w11) :=
        gCallP_eq (as := [.v (sD (freshes sets))]) rfl rfl rfl b6
      have c2 : gCallP (f_law_plain K ev 6) (gArV (gVar 6) gArN) (lwS s ms' v2 (od (sD sets)) (od (sD sets)) (od (.bl true)) (od (sD (freshes sets))) v7 (od (sD (freshes sets))) none v10 w11) = .ok ⟨false, 1, plS (freshes sets)⟩ (lwS s ms' v2 (od (sD sets)) (od (sD sets)) (od (.bl true)) (od (sD (freshes sets))) v7 (od (sD (freshes sets))) none v10 w11) :=
        gCallP_eq (as := [.v (sD (freshes sets))]) rfl rfl rfl b6
      have c3 : gVar 4 (lwS s ms' v2 (od (sD sets)) (od (sD sets)) (od (.bl true)) (od (sD (freshes sets))) v7 (od (sD (freshes sets))) none v10 w11) = .ok (sD sets) (lwS s ms' v2 (od (sD sets)) (od (sD sets)) (od (.bl true)) (od (sD (freshes sets))) v7 (od (sD (freshes sets))) none v10 w11) := rfl
      have c4 : gVar 3 (lwS s ms' v2 (od (sD sets)) (od (sD sets)) (od (.bl true)) (od (sD (freshes sets))) v7 (od (sD (freshes sets))) none v10 w11) = .ok (sD sets) (lwS s ms' v2 (od (sD sets)) (od (sD sets)) (od (.bl true)) (od (sD (freshes sets))) v7 (od (sD (freshes sets))) none v10 w11) := rfl
      have c5 : gTru (gV (gVar 5)) (lwS s ms' v2 (od (sD sets)) (od (sD sets)) (od (.bl true)) (od (sD (freshes sets))) v7 (od (sD (freshes sets))) none v10 w11) = .ok true (lwS s ms' v2 (od (sD sets)) (od (sD sets)) (od (.bl true)) (od (sD (freshes sets))) v7 (od (sD (freshes sets))) none v10 w11) := rfl
      have d1 := dEq_self (ok_plS (freshes sets)).1 (ok_plS (freshes sets)).2 true
      have d2 := dEq_self (ok_sD sets).1 (ok_sD sets).2 true
      refine (gIfS_f (S1 := lwS s ms' v2 (od (sD sets)) (od (sD sets)) (od (.bl true)) (od (sD (freshes sets))) v7 (od (sD (freshes sets))) none v10 w11) ?_).trans rfl
      simp [gOr, gNot, c5, R.bind, gBool, gOpV, c1, c2, d1, gV, c3, c4, d2, Vl.fzn]
    obtain ⟨rows, T7, e1, e2⟩ := allwithin_ok K ev hs hl10
    have hit : gSeq false (gCallP (f_law_all_within K ev) (gArV (gVar 3) gArN)) (lwS s ms' v2 (od (sD sets)) (od (sD sets)) (od (.bl true)) (od (sD (freshes sets))) v7 (od (sD (freshes sets))) none v10 w11) = .ok (rows.map tI) (lwS s ms' v2 (od (sD sets)) (od (sD sets)) (od (.bl true)) (od (sD (freshes sets))) v7 (od (sD (freshes sets))) none v10 w11) := by
      have hc : gCallP (f_law_all_within K ev) (gArV (gVar 3) gArN) (lwS s ms' v2 (od (sD sets)) (od (sD sets)) (od (.bl true)) (od (sD (freshes sets))) v7 (od (sD (freshes sets))) none v10 w11) = .ok ⟨false, 1, sD rows⟩ (lwS s ms' v2 (od (sD sets)) (od (sD sets)) (od (.bl true)) (od (sD (freshes sets))) v7 (od (sD (freshes sets))) none v10 w11) :=
        gCallP_eq (as := [.v (sD sets)]) rfl rfl rfl e2
      simp [gSeq, hc, R.bind, items_sD1]
    obtain ⟨S', l1, v7', v10', rfl⟩ := loopFor_pre2 (c := tI) (ga := gaName 7) (gb := lwHomes K ev)
      (fun p S => ∃ v7 v10, S = lwS s ms' v2 (od (sD sets)) (od (sD sets)) (od (.bl true)) (od (sD (freshes sets))) v7 (od (sD (freshes sets))) none v10 w11)
      (L := rows) (pre := []) (S := lwS s ms' v2 (od (sD sets)) (od (sD sets)) (od (.bl true)) (od (sD (freshes sets))) v7 (od (sD (freshes sets))) none v10 w11) ⟨v7, v10, rfl⟩ (by
        rintro row p q S hq ⟨v7, v10, rfl⟩
        have hm : row ∈ rows := by
          have : rows = p ++ row :: q := by simpa using hq
          rw [this]; simp
        obtain ⟨f1, f2⟩ := e1 row hm
        obtain ⟨v10', g1⟩ := lw_homes K ev s ms' hs hl10 hb f2 (by omega) v2 (od (sD sets)) (od (.bl true)) (od (sD (freshes sets))) v10 w11
        exact ⟨lwS s ms' v2 (od (sD sets)) (od (sD sets)) (od (.bl true)) (od (sD (freshes sets))) (od (tI row)) (od (sD (freshes sets))) none v10 w11, _, rfl, .inl g1, od (tI row), v10', rfl⟩)
    refine ⟨ms', od (sD sets), od (sD sets), od (.bl true), od (sD (freshes sets)), v7', od (sD (freshes sets)), v10', w11, .inl ?_⟩
    unfold lwTurn
    exact (gThen_nx a1).trans ((gThen_nx a2).trans ((gThen_nx a3).trans ((gThen_nx a4).trans ((gThen_nx htry).trans ((gThen_nx a6).trans ((gThen_nx a7).trans ((gFor_eq hit).trans l1)))))))
theorem law_true (K : PySem.W.Frag) (ev : Ev) (a : Addr) (ns : List Int) (h : ns.length ≤ 63) : ∃ S', g_law K ev (⟨false, some (0, .kl K a ns)⟩ :: List.replicate (N_law.length - 1) ⟨false, none⟩) = .ok (.rt (.fzn (.bl true))) S' := by
  obtain ⟨ms, T', h1, h2⟩ := deck_ok K ev a ns h
  have b1 : gSet 1 (gCallP (f_law_deck K ev) (gArV (gVar 0) (gArV (gC (.int (60))) (gArV (gC (.int (14))) gArN)))) (⟨false, some (0, .kl K a ns)⟩ :: List.replicate (N_law.length - 1) ⟨false, none⟩) = .ok .nx (lwS (.kl K a ns) ms none none none none none none none none none none) := by
    have hc : gCallP (f_law_deck K ev) (gArV (gVar 0) (gArV (gC (.int (60))) (gArV (gC (.int (14))) gArN))) (⟨false, some (0, .kl K a ns)⟩ :: List.replicate (N_law.length - 1) ⟨false, none⟩) = .ok ⟨false, 1, lI ms⟩ (⟨false, some (0, .kl K a ns)⟩ :: List.replicate (N_law.length - 1) ⟨false, none⟩) :=
      gCallP_eq (as := [.v (.kl K a ns), .v (.int 60), .v (.int 14)]) rfl rfl rfl h1
    exact (gSet_eq hc rfl).trans rfl
  obtain ⟨S', l1, ms', v2, v3, v4, v5, v6, v7, v8, v10, w11, rfl⟩ := loopFor_pre2 (c := fun k : Nat => D.int (k : Nat)) (ga := gaName 2) (gb := lwTurn K ev)
    (fun p S => ∃ ms v2 v3 v4 v5 v6 v7 v8 v10 w11, S = lwS (.kl K a ns) ms v2 v3 v4 v5 v6 v7 v8 none v10 w11)
    (L := List.range 4) (pre := []) (S := lwS (.kl K a ns) ms none none none none none none none none none none) ⟨ms, _, _, _, _, _, _, _, _, _, rfl⟩ (by
      rintro k p q S hq ⟨ms, v2, v3, v4, v5, v6, v7, v8, v10, w11, rfl⟩
      obtain ⟨ms', v3', v4', v5', v6', v7', v8', v10', w11', hh⟩ := lw_turn K ev (.kl K a ns) ms (oi k) v3 v4 v5 v6 v7 v8 v10 w11
      rcases hh with hh | hh
      · exact ⟨lwS (.kl K a ns) ms (oi k) v3 v4 v5 v6 v7 v8 none v10 w11, _, rfl, .inl hh, ms', oi k, v3', v4', v5', v6', v7', v8', v10', w11', rfl⟩
      · exact ⟨lwS (.kl K a ns) ms (oi k) v3 v4 v5 v6 v7 v8 none v10 w11, _, rfl, .inr hh, ms', oi k, v3', v4', v5', v6', v7', v8', v10', w11', rfl⟩)
  have hl2 : ∀ l ∈ [[(1 : Int), 2], [2, 1]], l.length ≤ 1000 := by simp
  have hl3 : ∀ l ∈ [[(3 : Int)]], l.length ≤ 1000 := by simp
  obtain ⟨T2, c2⟩ := is_ok K ev (sets := [[1, 2], [2, 1]]) (by decide) hl2
  obtain ⟨T3, c3⟩ := is_ok K ev (sets := [[3]]) (by decide) hl3
  rw [last1] at c2
  rw [last2] at c3
  refine ⟨lwS (.kl K a ns) ms' v2 v3 v4 v5 v6 v7 v8 none v10 w11, ?_⟩
  unfold g_law
  refine (gThen_nx b1).trans ((gThen_nx ((gFor_eq (gIt_range (n := 4) (by omega) (g := gC (.int 4)) (S1 := lwS (.kl K a ns) ms none none none none none none none none none none) rfl)).trans l1)).trans ?_)
  have d2 : gCallP (f_is_shelling K ev) (gArV (gD (gLst (gCons (gTup (gCons (gC (.int (1))) (gCons (gC (.int (2))) gNil))) (gCons (gTup (gCons (gC (.int (2))) (gCons (gC (.int (1))) gNil))) gNil)))) gArN) (lwS (.kl K a ns) ms' v2 v3 v4 v5 v6 v7 v8 none v10 w11) = .ok (.fzn (.bl false)) (lwS (.kl K a ns) ms' v2 v3 v4 v5 v6 v7 v8 none v10 w11) :=
    gCallP_eq (as := [.v (sD [[1, 2], [2, 1]])]) rfl rfl rfl c2
  have d3 : gCallP (f_is_shelling K ev) (gArV (gD (gLst (gCons (gTup (gCons (gC (.int (3))) gNil)) gNil))) gArN) (lwS (.kl K a ns) ms' v2 v3 v4 v5 v6 v7 v8 none v10 w11) = .ok (.fzn (.bl true)) (lwS (.kl K a ns) ms' v2 v3 v4 v5 v6 v7 v8 none v10 w11) :=
    gCallP_eq (as := [.v (sD [[3]])]) rfl rfl rfl c3
  simp [gRet, gV, gAndV, gOp, gD, d2, d3, R.bind, gC, Vl.fzn, dIsBl]
end VL

set_option Elab.async false
set_option linter.all false
set_option autoImplicit false
set_option maxRecDepth 100000
set_option maxHeartbeats 8000000
namespace VL
open PySem PySem.Spec L2
open PyProof.Rows hiding St
abbrev s_init_InvalidOrder : Stmt := inClass (top 2) 0
theorem exm_self {K : PySem.W.Frag} {S : Addr} (h1 : PySem.W.subIn K (.ref S) (.type "BaseException") = some true) (h2 : PySem.W.isClsIn K S = true) (h3 : PySem.W.typeIn K (.ref S) = some (.type "type")) (h4 : PySem.W.subIn K (.ref S) (.ref S) = some true) : PySem.W.exmOne K (.ref S) (.ref S) = some true := by
  have e1 : (PySem.W.subIn K (.ref S) (.type "BaseException") == some true) = true := by rw [h1]; rfl
  have e2 : ((PySem.W.clsIn K S).isSome && PySem.W.typeIn K (.ref S) == some (.type "type")) = true := by
    rw [show (PySem.W.clsIn K S).isSome = true from h2, h3]; rfl
  unfold PySem.W.exmOne PySem.W.kitCls
  rw [if_pos e1]
  show (if ((PySem.W.clsIn K S).isSome && PySem.W.typeIn K (.ref S) == some (.type "type")) = true then PySem.W.subIn K (.ref S) (.ref S) else none) = some true
  rw [if_pos e2]
  exact h4
theorem all_mk {l : PySem.W.OpenLaw} {w : World} {K : PySem.W.Frag} {h : Heap} {mg : Str → Option Value} {fa B : Addr}
  {C_InvalidOrder fI_InvalidOrder : Addr} {nm_InvalidOrder q_InvalidOrder : Str} {NN_InvalidOrder : Addr} {bs_InvalidOrder : List Value} {sn_InvalidOrder : List Str} {sub_InvalidOrder : List Value} {ab_InvalidOrder : Bool} {col_InvalidOrder : Option Bool} {dd_InvalidOrder : Option Addr} {m0_InvalidOrder m1_InvalidOrder m2_InvalidOrder m3_InvalidOrder m5_InvalidOrder : Option Value} {od_InvalidOrder an_InvalidOrder : Option Addr} {sl_InvalidOrder : Array (Option Value)} {oc_InvalidOrder kV_InvalidOrder dc_InvalidOrder pm_InvalidOrder cd_InvalidOrder ct_InvalidOrder : Value}
  {f_flaw_all_within : Addr} {od_flaw_all_within an_flaw_all_within : Option Addr} {sl_flaw_all_within : Array (Option Value)} {oc_flaw_all_within kV_flaw_all_within dc_flaw_all_within pm_flaw_all_within cd_flaw_all_within ct_flaw_all_within : Value}
  {f_flaw_deck : Addr} {od_flaw_deck an_flaw_deck : Option Addr} {sl_flaw_deck : Array (Option Value)} {oc_flaw_deck kV_flaw_deck dc_flaw_deck pm_flaw_deck cd_flaw_deck ct_flaw_deck : Value}
  {f_flaw_take : Addr} {od_flaw_take an_flaw_take : Option Addr} {sl_flaw_take : Array (Option Value)} {oc_flaw_take kV_flaw_take dc_flaw_take pm_flaw_take cd_flaw_take ct_flaw_take : Value}
  {f_flaw_drawn : Addr} {od_flaw_drawn an_flaw_drawn : Option Addr} {sl_flaw_drawn : Array (Option Value)} {oc_flaw_drawn kV_flaw_drawn dc_flaw_drawn pm_flaw_drawn cd_flaw_drawn ct_flaw_drawn : Value}
  {f_flaw_within : Addr} {od_flaw_within an_flaw_within : Option Addr} {sl_flaw_within : Array (Option Value)} {oc_flaw_within kV_flaw_within dc_flaw_within pm_flaw_within cd_flaw_within ct_flaw_within : Value}
  {f_flaw_fresh : Addr} {od_flaw_fresh an_flaw_fresh : Option Addr} {sl_flaw_fresh : Array (Option Value)} {oc_flaw_fresh kV_flaw_fresh dc_flaw_fresh pm_flaw_fresh cd_flaw_fresh ct_flaw_fresh : Value}
  {f_flaw_plain : Addr} {od_flaw_plain an_flaw_plain : Option Addr} {sl_flaw_plain : Array (Option Value)} {oc_flaw_plain kV_flaw_plain dc_flaw_plain pm_flaw_plain cd_flaw_plain ct_flaw_plain : Value}
  {f_flaw_shells : Addr} {od_flaw_shells an_flaw_shells : Option Addr} {sl_flaw_shells : Array (Option Value)} {oc_flaw_shells kV_flaw_shells dc_flaw_shells pm_flaw_shells cd_flaw_shells ct_flaw_shells : Value}
  {f_fshares_side : Addr} {od_fshares_side an_fshares_side : Option Addr} {sl_fshares_side : Array (Option Value)} {oc_fshares_side kV_fshares_side dc_fshares_side pm_fshares_side cd_fshares_side ct_fshares_side : Value}
  {f_fhas_sides : Addr} {od_fhas_sides an_fhas_sides : Option Addr} {sl_fhas_sides : Array (Option Value)} {oc_fhas_sides kV_fhas_sides dc_fhas_sides pm_fhas_sides cd_fhas_sides ct_fhas_sides : Value}
  {f_fis_shelling : Addr} {od_fis_shelling an_fis_shelling : Option Addr} {sl_fis_shelling : Array (Option Value)} {oc_fis_shelling kV_fis_shelling dc_fis_shelling pm_fis_shelling cd_fis_shelling ct_fis_shelling : Value}
  {f_ffresh_parts : Addr} {od_ffresh_parts an_ffresh_parts : Option Addr} {sl_ffresh_parts : Array (Option Value)} {oc_ffresh_parts kV_ffresh_parts dc_ffresh_parts pm_ffresh_parts cd_ffresh_parts ct_ffresh_parts : Value}
  {f_flaw : Addr} {od_flaw an_flaw : Option Addr} {sl_flaw : Array (Option Value)} {oc_flaw kV_flaw dc_flaw pm_flaw cd_flaw ct_flaw : Value}
  (X : K.In h) (G : h.Ns mainGlobals mg) (hfa : mg "law" = some (.ref fa))
  (xB : PySem.W.nsIn K mainGlobals "PolyError" = some (some (.ref B)))
  (xsB : PySem.W.specialIn K (.ref B) "__getattribute__" = some (some (.builtin "type.__getattribute__")))
  (xrB : PySem.W.readsIn K B (.type "type") = true)
  (xvB : PySem.W.findCls K (.ref B) (.type "type") "__init__" = some (.val (.builtin "ValueError.__init__")))
  (aC_InvalidOrder : PySem.W.nsIn K mainGlobals "InvalidOrder" = some (some (.ref C_InvalidOrder)))
  (xL_InvalidOrder : K.lookup C_InvalidOrder = some (excClassObj nm_InvalidOrder q_InvalidOrder C_InvalidOrder NN_InvalidOrder bs_InvalidOrder [.ref B, .type "ValueError", .type "Exception", .type "BaseException", .type "object"] true sn_InvalidOrder sub_InvalidOrder ab_InvalidOrder col_InvalidOrder dd_InvalidOrder m0_InvalidOrder m1_InvalidOrder m2_InvalidOrder m3_InvalidOrder m5_InvalidOrder "ValueError.__new__"))
  (sa_InvalidOrder : PySem.W.findIn K (.ref C_InvalidOrder) "__setattr__" = some (some (.builtin "object.__setattr__")))
  (ga_InvalidOrder : PySem.W.findIn K (.ref C_InvalidOrder) "__getattribute__" = some (some (.builtin "BaseException.__getattribute__")))
  (gg_InvalidOrder : PySem.W.findIn K (.ref C_InvalidOrder) "__getattr__" = some none)
  (nw_InvalidOrder : PySem.W.findIn K (.ref C_InvalidOrder) "what" = some none)
  (a1_InvalidOrder : PySem.W.findIn K (.ref C_InvalidOrder) "__init__" = some (some (.ref fI_InvalidOrder)))
  (t1_InvalidOrder : PySem.W.typeIn K (.ref fI_InvalidOrder) = some (.type "function"))
  (l1_InvalidOrder : K.lookup fI_InvalidOrder = some ⟨oc_InvalidOrder, od_InvalidOrder, .func (PySem.W.fnOf "__init__" "InvalidOrder.__init__" (defArgs s_init_InvalidOrder) (defBody s_init_InvalidOrder) (defScope s_init_InvalidOrder) .none kV_InvalidOrder dc_InvalidOrder pm_InvalidOrder an_InvalidOrder cd_InvalidOrder ct_InvalidOrder), sl_InvalidOrder⟩)
  (c1_InvalidOrder : PySem.W.codeIn K cd_InvalidOrder "InvalidOrder.__init__" = true)
  (k1_InvalidOrder : PySem.W.keepIn K (.ref fI_InvalidOrder) = true)
  (kC_InvalidOrder : PySem.W.keepIn K (.ref C_InvalidOrder) = true)
  (eC_InvalidOrder : PySem.W.subIn K (.ref C_InvalidOrder) (.type "BaseException") = some true)
  (tC_InvalidOrder : PySem.W.typeIn K (.ref C_InvalidOrder) = some (.type "type"))
  (hC_InvalidOrder : PySem.W.hasDictIn K C_InvalidOrder = true)
  (iC_InvalidOrder : PySem.W.isClsIn K C_InvalidOrder = true)
  (sC_InvalidOrder : PySem.W.subIn K (.ref C_InvalidOrder) (.ref C_InvalidOrder) = some true)
  (a_flaw_all_within : PySem.W.nsIn K mainGlobals "_law_all_within" = some (some (.ref f_flaw_all_within)))
  (l_flaw_all_within : K.lookup f_flaw_all_within = some ⟨oc_flaw_all_within, od_flaw_all_within, .func (PySem.W.fnOf "_law_all_within" "_law_all_within" (defArgs s_law_all_within) (defBody s_law_all_within) (defScope s_law_all_within) .none kV_flaw_all_within dc_flaw_all_within pm_flaw_all_within an_flaw_all_within cd_flaw_all_within ct_flaw_all_within), sl_flaw_all_within⟩)
  (c_flaw_all_within : PySem.W.codeIn K cd_flaw_all_within "_law_all_within" = true)
  (k_flaw_all_within : PySem.W.keepIn K (.ref f_flaw_all_within) = true)
  (a_flaw_deck : PySem.W.nsIn K mainGlobals "_law_deck" = some (some (.ref f_flaw_deck)))
  (l_flaw_deck : K.lookup f_flaw_deck = some ⟨oc_flaw_deck, od_flaw_deck, .func (PySem.W.fnOf "_law_deck" "_law_deck" (defArgs s_law_deck) (defBody s_law_deck) (defScope s_law_deck) .none kV_flaw_deck dc_flaw_deck pm_flaw_deck an_flaw_deck cd_flaw_deck ct_flaw_deck), sl_flaw_deck⟩)
  (c_flaw_deck : PySem.W.codeIn K cd_flaw_deck "_law_deck" = true)
  (k_flaw_deck : PySem.W.keepIn K (.ref f_flaw_deck) = true)
  (a_flaw_take : PySem.W.nsIn K mainGlobals "_law_take" = some (some (.ref f_flaw_take)))
  (l_flaw_take : K.lookup f_flaw_take = some ⟨oc_flaw_take, od_flaw_take, .func (PySem.W.fnOf "_law_take" "_law_take" (defArgs s_law_take) (defBody s_law_take) (defScope s_law_take) .none kV_flaw_take dc_flaw_take pm_flaw_take an_flaw_take cd_flaw_take ct_flaw_take), sl_flaw_take⟩)
  (c_flaw_take : PySem.W.codeIn K cd_flaw_take "_law_take" = true)
  (k_flaw_take : PySem.W.keepIn K (.ref f_flaw_take) = true)
  (a_flaw_drawn : PySem.W.nsIn K mainGlobals "_law_drawn" = some (some (.ref f_flaw_drawn)))
  (l_flaw_drawn : K.lookup f_flaw_drawn = some ⟨oc_flaw_drawn, od_flaw_drawn, .func (PySem.W.fnOf "_law_drawn" "_law_drawn" (defArgs s_law_drawn) (defBody s_law_drawn) (defScope s_law_drawn) .none kV_flaw_drawn dc_flaw_drawn pm_flaw_drawn an_flaw_drawn cd_flaw_drawn ct_flaw_drawn), sl_flaw_drawn⟩)
  (c_flaw_drawn : PySem.W.codeIn K cd_flaw_drawn "_law_drawn" = true)
  (k_flaw_drawn : PySem.W.keepIn K (.ref f_flaw_drawn) = true)
  (a_flaw_within : PySem.W.nsIn K mainGlobals "_law_within" = some (some (.ref f_flaw_within)))
  (l_flaw_within : K.lookup f_flaw_within = some ⟨oc_flaw_within, od_flaw_within, .func (PySem.W.fnOf "_law_within" "_law_within" (defArgs s_law_within) (defBody s_law_within) (defScope s_law_within) .none kV_flaw_within dc_flaw_within pm_flaw_within an_flaw_within cd_flaw_within ct_flaw_within), sl_flaw_within⟩)
  (c_flaw_within : PySem.W.codeIn K cd_flaw_within "_law_within" = true)
  (k_flaw_within : PySem.W.keepIn K (.ref f_flaw_within) = true)
  (a_flaw_fresh : PySem.W.nsIn K mainGlobals "_law_fresh" = some (some (.ref f_flaw_fresh)))
  (l_flaw_fresh : K.lookup f_flaw_fresh = some ⟨oc_flaw_fresh, od_flaw_fresh, .func (PySem.W.fnOf "_law_fresh" "_law_fresh" (defArgs s_law_fresh) (defBody s_law_fresh) (defScope s_law_fresh) .none kV_flaw_fresh dc_flaw_fresh pm_flaw_fresh an_flaw_fresh cd_flaw_fresh ct_flaw_fresh), sl_flaw_fresh⟩)
  (c_flaw_fresh : PySem.W.codeIn K cd_flaw_fresh "_law_fresh" = true)
  (k_flaw_fresh : PySem.W.keepIn K (.ref f_flaw_fresh) = true)
  (a_flaw_plain : PySem.W.nsIn K mainGlobals "_law_plain" = some (some (.ref f_flaw_plain)))
  (l_flaw_plain : K.lookup f_flaw_plain = some ⟨oc_flaw_plain, od_flaw_plain, .func (PySem.W.fnOf "_law_plain" "_law_plain" (defArgs s_law_plain) (defBody s_law_plain) (defScope s_law_plain) .none kV_flaw_plain dc_flaw_plain pm_flaw_plain an_flaw_plain cd_flaw_plain ct_flaw_plain), sl_flaw_plain⟩)
  (c_flaw_plain : PySem.W.codeIn K cd_flaw_plain "_law_plain" = true)
  (k_flaw_plain : PySem.W.keepIn K (.ref f_flaw_plain) = true)
  (a_flaw_shells : PySem.W.nsIn K mainGlobals "_law_shells" = some (some (.ref f_flaw_shells)))
  (l_flaw_shells : K.lookup f_flaw_shells = some ⟨oc_flaw_shells, od_flaw_shells, .func (PySem.W.fnOf "_law_shells" "_law_shells" (defArgs s_law_shells) (defBody s_law_shells) (defScope s_law_shells) .none kV_flaw_shells dc_flaw_shells pm_flaw_shells an_flaw_shells cd_flaw_shells ct_flaw_shells), sl_flaw_shells⟩)
  (c_flaw_shells : PySem.W.codeIn K cd_flaw_shells "_law_shells" = true)
  (k_flaw_shells : PySem.W.keepIn K (.ref f_flaw_shells) = true)
  (a_fshares_side : PySem.W.nsIn K mainGlobals "shares_side" = some (some (.ref f_fshares_side)))
  (l_fshares_side : K.lookup f_fshares_side = some ⟨oc_fshares_side, od_fshares_side, .func (PySem.W.fnOf "shares_side" "shares_side" (defArgs s_shares_side) (defBody s_shares_side) (defScope s_shares_side) .none kV_fshares_side dc_fshares_side pm_fshares_side an_fshares_side cd_fshares_side ct_fshares_side), sl_fshares_side⟩)
  (c_fshares_side : PySem.W.codeIn K cd_fshares_side "shares_side" = true)
  (k_fshares_side : PySem.W.keepIn K (.ref f_fshares_side) = true)
  (a_fhas_sides : PySem.W.nsIn K mainGlobals "has_sides" = some (some (.ref f_fhas_sides)))
  (l_fhas_sides : K.lookup f_fhas_sides = some ⟨oc_fhas_sides, od_fhas_sides, .func (PySem.W.fnOf "has_sides" "has_sides" (defArgs s_has_sides) (defBody s_has_sides) (defScope s_has_sides) .none kV_fhas_sides dc_fhas_sides pm_fhas_sides an_fhas_sides cd_fhas_sides ct_fhas_sides), sl_fhas_sides⟩)
  (c_fhas_sides : PySem.W.codeIn K cd_fhas_sides "has_sides" = true)
  (k_fhas_sides : PySem.W.keepIn K (.ref f_fhas_sides) = true)
  (a_fis_shelling : PySem.W.nsIn K mainGlobals "is_shelling" = some (some (.ref f_fis_shelling)))
  (l_fis_shelling : K.lookup f_fis_shelling = some ⟨oc_fis_shelling, od_fis_shelling, .func (PySem.W.fnOf "is_shelling" "is_shelling" (defArgs s_is_shelling) (defBody s_is_shelling) (defScope s_is_shelling) .none kV_fis_shelling dc_fis_shelling pm_fis_shelling an_fis_shelling cd_fis_shelling ct_fis_shelling), sl_fis_shelling⟩)
  (c_fis_shelling : PySem.W.codeIn K cd_fis_shelling "is_shelling" = true)
  (k_fis_shelling : PySem.W.keepIn K (.ref f_fis_shelling) = true)
  (a_ffresh_parts : PySem.W.nsIn K mainGlobals "fresh_parts" = some (some (.ref f_ffresh_parts)))
  (l_ffresh_parts : K.lookup f_ffresh_parts = some ⟨oc_ffresh_parts, od_ffresh_parts, .func (PySem.W.fnOf "fresh_parts" "fresh_parts" (defArgs s_fresh_parts) (defBody s_fresh_parts) (defScope s_fresh_parts) .none kV_ffresh_parts dc_ffresh_parts pm_ffresh_parts an_ffresh_parts cd_ffresh_parts ct_ffresh_parts), sl_ffresh_parts⟩)
  (c_ffresh_parts : PySem.W.codeIn K cd_ffresh_parts "fresh_parts" = true)
  (k_ffresh_parts : PySem.W.keepIn K (.ref f_ffresh_parts) = true)
  (a_flaw : PySem.W.nsIn K mainGlobals "law" = some (some (.ref f_flaw)))
  (l_flaw : K.lookup f_flaw = some ⟨oc_flaw, od_flaw, .func (PySem.W.fnOf "law" "law" (defArgs s_law) (defBody s_law) (defScope s_law) .none kV_flaw dc_flaw pm_flaw an_flaw cd_flaw ct_flaw), sl_flaw⟩)
  (c_flaw : PySem.W.codeIn K cd_flaw "law" = true)
  (k_flaw : PySem.W.keepIn K (.ref f_flaw) = true)
  (z_abs : PySem.W.nsIn K mainGlobals "abs" = some none)
  (z_bool : PySem.W.nsIn K mainGlobals "bool" = some none)
  (z_enumerate : PySem.W.nsIn K mainGlobals "enumerate" = some none)
  (z_int : PySem.W.nsIn K mainGlobals "int" = some none)
  (z_isinstance : PySem.W.nsIn K mainGlobals "isinstance" = some none)
  (z_len : PySem.W.nsIn K mainGlobals "len" = some none)
  (z_list : PySem.W.nsIn K mainGlobals "list" = some none)
  (z_range : PySem.W.nsIn K mainGlobals "range" = some none)
  (z_set : PySem.W.nsIn K mainGlobals "set" = some none)
  (z_sorted : PySem.W.nsIn K mainGlobals "sorted" = some none)
  (z_str : PySem.W.nsIn K mainGlobals "str" = some none)
  (z_tuple : PySem.W.nsIn K mainGlobals "tuple" = some none) :
  ∃ fd : FuncData, (∀ (s : Shared) (v : Value), BindsTo s fd ⟨[v], []⟩ [("script", v)]) ∧ ∀ base : Heap, K.In base → base.Ns mainGlobals mg → FnOk l.prog w K mg base (L2.CX l.prog w) 10 fa fd ["script"] (spLaw K) := by
  have e := hfa.symm.trans (PySem.W.mg_of X G a_flaw)
  cases e
  have T : Txt K mg := ⟨PySem.W.mg_none_of X G z_abs, PySem.W.mg_none_of X G z_bool, PySem.W.mg_none_of X G z_enumerate, PySem.W.mg_none_of X G z_int, PySem.W.mg_none_of X G z_isinstance, PySem.W.mg_none_of X G z_len, PySem.W.mg_none_of X G z_list, PySem.W.mg_none_of X G z_range, PySem.W.mg_none_of X G z_set, PySem.W.mg_none_of X G z_sorted, PySem.W.mg_none_of X G z_str, PySem.W.mg_none_of X G z_tuple⟩
  let ev : Ev := ⟨C_InvalidOrder⟩
  have E_InvalidOrder : ErrTxt K mg "InvalidOrder" ev.cInvalidOrder B fI_InvalidOrder := ⟨⟨⟨nm_InvalidOrder, q_InvalidOrder, NN_InvalidOrder, bs_InvalidOrder, _, sn_InvalidOrder, sub_InvalidOrder, ab_InvalidOrder, col_InvalidOrder, dd_InvalidOrder, m0_InvalidOrder, m1_InvalidOrder, m2_InvalidOrder, m3_InvalidOrder, m5_InvalidOrder, xL_InvalidOrder, by rfl⟩, sa_InvalidOrder, eC_InvalidOrder, tC_InvalidOrder, kC_InvalidOrder⟩, PySem.W.mg_of X G aC_InvalidOrder, a1_InvalidOrder, t1_InvalidOrder, nw_InvalidOrder, PySem.W.mg_of X G xB, xsB, xrB, xvB, ga_InvalidOrder, gg_InvalidOrder, hC_InvalidOrder⟩
  have FI0_InvalidOrder := fun_mk (st := s_init_InvalidOrder) l1_InvalidOrder c1_InvalidOrder k1_InvalidOrder
  have bI_InvalidOrder := FI0_InvalidOrder.binds (ps := nmSW) fun _ _ _ _ _ _ us hl => match us, hl with | [_, _], _ => rfl
  have te_InvalidOrder : PySem.W.exmOne K (.ref ev.cInvalidOrder) (.ref ev.cInvalidOrder) = some true := exm_self eC_InvalidOrder iC_InvalidOrder tC_InvalidOrder sC_InvalidOrder
  have F_law_all_within := fun_mk (st := s_law_all_within) l_flaw_all_within c_flaw_all_within k_flaw_all_within
  have b_law_all_within_ := F_law_all_within.binds (ps := P_law_all_within) fun _ _ _ _ _ _ us hl => match us, hl with | [_], _ => rfl
  have F_law_deck := fun_mk (st := s_law_deck) l_flaw_deck c_flaw_deck k_flaw_deck
  have b_law_deck_ := F_law_deck.binds (ps := P_law_deck) fun _ _ _ _ _ _ us hl => match us, hl with | [_, _, _], _ => rfl
  have F_law_take := fun_mk (st := s_law_take) l_flaw_take c_flaw_take k_flaw_take
  have b_law_take_ := F_law_take.binds (ps := P_law_take) fun _ _ _ _ _ _ us hl => match us, hl with | [_, _], _ => rfl
  have F_law_drawn := fun_mk (st := s_law_drawn) l_flaw_drawn c_flaw_drawn k_flaw_drawn
  have b_law_drawn_ := F_law_drawn.binds (ps := P_law_drawn) fun _ _ _ _ _ _ us hl => match us, hl with | [_], _ => rfl
  have F_law_within := fun_mk (st := s_law_within) l_flaw_within c_flaw_within k_flaw_within
  have b_law_within_ := F_law_within.binds (ps := P_law_within) fun _ _ _ _ _ _ us hl => match us, hl with | [_, _], _ => rfl
  have F_law_fresh := fun_mk (st := s_law_fresh) l_flaw_fresh c_flaw_fresh k_flaw_fresh
  have b_law_fresh_ := F_law_fresh.binds (ps := P_law_fresh) fun _ _ _ _ _ _ us hl => match us, hl with | [_], _ => rfl
  have F_law_plain := fun_mk (st := s_law_plain) l_flaw_plain c_flaw_plain k_flaw_plain
  have b_law_plain_ := F_law_plain.binds (ps := P_law_plain) fun _ _ _ _ _ _ us hl => match us, hl with | [_], _ => rfl
  have F_law_shells := fun_mk (st := s_law_shells) l_flaw_shells c_flaw_shells k_flaw_shells
  have b_law_shells_ := F_law_shells.binds (ps := P_law_shells) fun _ _ _ _ _ _ us hl => match us, hl with | [_], _ => rfl
  have F_shares_side := fun_mk (st := s_shares_side) l_fshares_side c_fshares_side k_fshares_side
  have b_shares_side_ := F_shares_side.binds (ps := P_shares_side) fun _ _ _ _ _ _ us hl => match us, hl with | [_, _], _ => rfl
  have F_has_sides := fun_mk (st := s_has_sides) l_fhas_sides c_fhas_sides k_fhas_sides
  have b_has_sides_ := F_has_sides.binds (ps := P_has_sides) fun _ _ _ _ _ _ us hl => match us, hl with | [_, _], _ => rfl
  have F_is_shelling := fun_mk (st := s_is_shelling) l_fis_shelling c_fis_shelling k_fis_shelling
  have b_is_shelling_ := F_is_shelling.binds (ps := P_is_shelling) fun _ _ _ _ _ _ us hl => match us, hl with | [_], _ => rfl
  have F_fresh_parts := fun_mk (st := s_fresh_parts) l_ffresh_parts c_ffresh_parts k_ffresh_parts
  have b_fresh_parts_ := F_fresh_parts.binds (ps := P_fresh_parts) fun _ _ _ _ _ _ us hl => match us, hl with | [_], _ => rfl
  have F_law := fun_mk (st := s_law) l_flaw c_flaw k_flaw
  have b_law_ := F_law.binds (ps := P_law) fun _ _ _ _ _ _ us hl => match us, hl with | [_], _ => rfl
  refine ⟨PySem.W.fnOf "law" "law" (defArgs s_law) (defBody s_law) (defScope s_law) .none kV_flaw dc_flaw pm_flaw an_flaw cd_flaw ct_flaw, fun s v => .of_eq rfl, fun base _ _ => ?_⟩
  have FI_InvalidOrder : FnOk l.prog w K mg base (L2.CX l.prog w) 1 fI_InvalidOrder _ nmSW (spInit ev.cInvalidOrder) := init_ok FI0_InvalidOrder E_InvalidOrder ⟨rfl, rfl, rfl, by decide +kernel, rfl, by decide +kernel, by decide +kernel⟩ (by decide) rfl rfl rfl rfl (fun _ _ _ _ _ _ => rfl) (fun _ _ _ _ _ _ => ⟨_, rfl⟩)
  have C_law_all_within : Cal l.prog w K mg base 2 "_law_all_within" 1 (f_law_all_within K ev) := cal_fn F_law_all_within (PySem.W.mg_of X G a_flaw_all_within) b_law_all_within_ sc_law_all_within rfl rfl (by decide) (fun cdv A outer s H E hr => b_law_all_within T  cdv A outer s H E hr)
  have C_law_deck : Cal l.prog w K mg base 2 "_law_deck" 3 (f_law_deck K ev) := cal_fn F_law_deck (PySem.W.mg_of X G a_flaw_deck) b_law_deck_ sc_law_deck rfl rfl (by decide) (fun cdv A outer s H E hr => b_law_deck T  cdv A outer s H E hr)
  have C_law_take : Cal l.prog w K mg base 2 "_law_take" 2 (f_law_take K ev) := cal_fn F_law_take (PySem.W.mg_of X G a_flaw_take) b_law_take_ sc_law_take rfl rfl (by decide) (fun cdv A outer s H E hr => b_law_take T  cdv A outer s H E hr)
  have C_law_drawn : Cal l.prog w K mg base 4 "_law_drawn" 1 (f_law_drawn K ev) := cal_fn F_law_drawn (PySem.W.mg_of X G a_flaw_drawn) b_law_drawn_ sc_law_drawn rfl rfl (by decide) (fun cdv A outer s H E hr => b_law_drawn T C_law_take cdv A outer s H E hr)
  have C_law_within : Cal l.prog w K mg base 2 "_law_within" 2 (f_law_within K ev) := cal_fn F_law_within (PySem.W.mg_of X G a_flaw_within) b_law_within_ sc_law_within rfl rfl (by decide) (fun cdv A outer s H E hr => b_law_within T  cdv A outer s H E hr)
  have C_law_fresh : Cal l.prog w K mg base 4 "_law_fresh" 1 (f_law_fresh K ev) := cal_fn F_law_fresh (PySem.W.mg_of X G a_flaw_fresh) b_law_fresh_ sc_law_fresh rfl rfl (by decide) (fun cdv A outer s H E hr => b_law_fresh T C_law_within cdv A outer s H E hr)
  have C0_law_plain : ∀ j, Cal l.prog w K mg base (j + 0) "_law_plain" 1 (f_law_plain K ev j) := fun j => by
    induction j with
    | zero => exact (cal_zero rfl (PySem.W.mg_of X G a_flaw_plain) F_law_plain.kp b_law_plain_)
    | succ j C_law_plain => exact cal_fn F_law_plain (PySem.W.mg_of X G a_flaw_plain) b_law_plain_ sc_law_plain rfl rfl (by decide) (fun cdv A outer s H E hr => b_law_plain T C_law_plain cdv A outer s H E hr)
  have C_law_plain := C0_law_plain 6
  have C_law_shells : Cal l.prog w K mg base 4 "_law_shells" 1 (f_law_shells K ev) := cal_fn F_law_shells (PySem.W.mg_of X G a_flaw_shells) b_law_shells_ sc_law_shells rfl rfl (by decide) (fun cdv A outer s H E hr => b_law_shells T C_law_within cdv A outer s H E hr)
  have C_shares_side : Cal l.prog w K mg base 2 "shares_side" 2 (f_shares_side K ev) := cal_fn F_shares_side (PySem.W.mg_of X G a_fshares_side) b_shares_side_ sc_shares_side rfl rfl (by decide) (fun cdv A outer s H E hr => b_shares_side T  cdv A outer s H E hr)
  have C_has_sides : Cal l.prog w K mg base 4 "has_sides" 2 (f_has_sides K ev) := cal_fn F_has_sides (PySem.W.mg_of X G a_fhas_sides) b_has_sides_ sc_has_sides rfl rfl (by decide) (fun cdv A outer s H E hr => b_has_sides T C_shares_side cdv A outer s H E hr)
  have C_is_shelling : Cal l.prog w K mg base 6 "is_shelling" 1 (f_is_shelling K ev) := cal_fn F_is_shelling (PySem.W.mg_of X G a_fis_shelling) b_is_shelling_ sc_is_shelling rfl rfl (by decide) (fun cdv A outer s H E hr => b_is_shelling T C_has_sides cdv A outer s H E hr)
  have C_fresh_parts : Cal l.prog w K mg base 8 "fresh_parts" 1 (f_fresh_parts K ev) := cal_fn F_fresh_parts (PySem.W.mg_of X G a_ffresh_parts) b_fresh_parts_ sc_fresh_parts rfl rfl (by decide) (fun cdv A outer s H E hr => b_fresh_parts T C_is_shelling E_InvalidOrder FI_InvalidOrder bI_InvalidOrder cdv A outer s H E hr)
  exact law_ok F_law sc_law (by decide) (fun cdv A outer s H E hr => b_law T C_law_all_within C_law_deck C_law_drawn C_law_fresh C_law_plain C_law_shells C_law_within C_fresh_parts C_is_shelling E_InvalidOrder FI_InvalidOrder bI_InvalidOrder te_InvalidOrder cdv A outer s H E hr) fun a ns hl => law_true K ev a ns hl
theorem walk {l : PySem.W.OpenLaw} {q : Program} {loose : List Str} {XP : (Str → Option Value) → Heap → Prop} {YP : World → Heap → Prop} {d : DefRec} {K : Params → PySem.W.Frag} (hn : l.most = some 63) (hdf : d.params.defaults = [])
    (hY : ∀ (w : World) (h : Heap), YP w h → (K w.params).In h)
    (F : ∀ (w : World) (mg : Str → Option Value) (fa : Addr) (h : Heap), (K w.params).In h → h.Ns mainGlobals mg → mg d.name = some (.ref fa) →
      ∃ fd : FuncData, (∀ (s : Shared) (u : Value), BindsTo s fd ⟨[u], []⟩ [("script", u)]) ∧ ∀ base : Heap, (K w.params).In base → base.Ns mainGlobals mg → FnOk l.prog w (K w.params) mg base (L2.CX l.prog w) 10 fa fd ["script"] (spLaw (K w.params))) :
    PySem.W.WalkO q loose XP YP l.row.toRowW d [] (fun f vs => PySem.call f vs) :=
  L2.walk_of (n := 63) (k := 10) (x := "script") (CX := fun w => L2.CX l.prog w) (sp := fun w => spLaw (K w.params)) hn (by decide) hdf ⟨rfl, by decide, by decide⟩ hY F (fun _ H a ns hl hO hS => ⟨a, ns, rfl, hl, hO, hS, fun _ => rfl⟩) fun _ _ _ _ _ z => by
    obtain ⟨_, _, _, _, _, _, _, _, _, _, _, _, z⟩ := z
    exact z
end VL
open PySem PySem.W PyProof.Rows in
set_option maxRecDepth 100000 in
set_option maxHeartbeats 0 in
theorem PySem.Challenge.cw_polywork_k16_shellings_judged_holds : PySem.Challenge.rw_polywork_k16_shellings_judged.Holds := by
  w_on; o_law; k_head; (case hw => w_witness2)
  k_fill
  refine VL.walk (l := PySem.Challenge.rw_polywork_k16_shellings_judged) rfl rfl (fun w h Y => PySem.W.kIn_of Y) ?F
  case F =>
    intro w mg fa h KX G hmg
    refine' VL.all_mk KX G hmg ?xB ?xsB ?xrB ?xvB ?aC_InvalidOrder ?xL_InvalidOrder ?sa_InvalidOrder ?ga_InvalidOrder ?gg_InvalidOrder ?nw_InvalidOrder ?a1_InvalidOrder ?t1_InvalidOrder ?l1_InvalidOrder ?c1_InvalidOrder ?k1_InvalidOrder ?kC_InvalidOrder ?eC_InvalidOrder ?tC_InvalidOrder ?hC_InvalidOrder ?iC_InvalidOrder ?sC_InvalidOrder ?a_flaw_all_within ?l_flaw_all_within ?c_flaw_all_within ?k_flaw_all_within ?a_flaw_deck ?l_flaw_deck ?c_flaw_deck ?k_flaw_deck ?a_flaw_take ?l_flaw_take ?c_flaw_take ?k_flaw_take ?a_flaw_drawn ?l_flaw_drawn ?c_flaw_drawn ?k_flaw_drawn ?a_flaw_within ?l_flaw_within ?c_flaw_within ?k_flaw_within ?a_flaw_fresh ?l_flaw_fresh ?c_flaw_fresh ?k_flaw_fresh ?a_flaw_plain ?l_flaw_plain ?c_flaw_plain ?k_flaw_plain ?a_flaw_shells ?l_flaw_shells ?c_flaw_shells ?k_flaw_shells ?a_fshares_side ?l_fshares_side ?c_fshares_side ?k_fshares_side ?a_fhas_sides ?l_fhas_sides ?c_fhas_sides ?k_fhas_sides ?a_fis_shelling ?l_fis_shelling ?c_fis_shelling ?k_fis_shelling ?a_ffresh_parts ?l_ffresh_parts ?c_ffresh_parts ?k_ffresh_parts ?a_flaw ?l_flaw ?c_flaw ?k_flaw ?z_abs ?z_bool ?z_enumerate ?z_int ?z_isinstance ?z_len ?z_list ?z_range ?z_set ?z_sorted ?z_str ?z_tuple
    (case xB => k_is)
    (case xsB => k_is)
    (case xrB => k_is)
    (case xvB => k_is)
    (case aC_InvalidOrder => k_is)
    (case xL_InvalidOrder => k_is)
    (case sa_InvalidOrder => k_is)
    (case ga_InvalidOrder => k_is)
    (case gg_InvalidOrder => k_is)
    (case nw_InvalidOrder => k_is)
    (case a1_InvalidOrder => k_is)
    (case t1_InvalidOrder => k_is)
    (case l1_InvalidOrder => k_is)
    (case c1_InvalidOrder => k_is)
    (case k1_InvalidOrder => k_is)
    (case kC_InvalidOrder => k_is)
    (case eC_InvalidOrder => k_is)
    (case tC_InvalidOrder => k_is)
    (case hC_InvalidOrder => k_is)
    (case iC_InvalidOrder => k_is)
    (case sC_InvalidOrder => first | rfl | k_is)
    (case a_flaw_all_within => k_is)
    (case l_flaw_all_within => k_is)
    (case c_flaw_all_within => k_is)
    (case k_flaw_all_within => k_is)
    (case a_flaw_deck => k_is)
    (case l_flaw_deck => k_is)
    (case c_flaw_deck => k_is)
    (case k_flaw_deck => k_is)
    (case a_flaw_take => k_is)
    (case l_flaw_take => k_is)
    (case c_flaw_take => k_is)
    (case k_flaw_take => k_is)
    (case a_flaw_drawn => k_is)
    (case l_flaw_drawn => k_is)
    (case c_flaw_drawn => k_is)
    (case k_flaw_drawn => k_is)
    (case a_flaw_within => k_is)
    (case l_flaw_within => k_is)
    (case c_flaw_within => k_is)
    (case k_flaw_within => k_is)
    (case a_flaw_fresh => k_is)
    (case l_flaw_fresh => k_is)
    (case c_flaw_fresh => k_is)
    (case k_flaw_fresh => k_is)
    (case a_flaw_plain => k_is)
    (case l_flaw_plain => k_is)
    (case c_flaw_plain => k_is)
    (case k_flaw_plain => k_is)
    (case a_flaw_shells => k_is)
    (case l_flaw_shells => k_is)
    (case c_flaw_shells => k_is)
    (case k_flaw_shells => k_is)
    (case a_fshares_side => k_is)
    (case l_fshares_side => k_is)
    (case c_fshares_side => k_is)
    (case k_fshares_side => k_is)
    (case a_fhas_sides => k_is)
    (case l_fhas_sides => k_is)
    (case c_fhas_sides => k_is)
    (case k_fhas_sides => k_is)
    (case a_fis_shelling => k_is)
    (case l_fis_shelling => k_is)
    (case c_fis_shelling => k_is)
    (case k_fis_shelling => k_is)
    (case a_ffresh_parts => k_is)
    (case l_ffresh_parts => k_is)
    (case c_ffresh_parts => k_is)
    (case k_ffresh_parts => k_is)
    (case a_flaw => k_is)
    (case l_flaw => k_is)
    (case c_flaw => k_is)
    (case k_flaw => k_is)
    (case z_abs => k_is)
    (case z_bool => k_is)
    (case z_enumerate => k_is)
    (case z_int => k_is)
    (case z_isinstance => k_is)
    (case z_len => k_is)
    (case z_list => k_is)
    (case z_range => k_is)
    (case z_set => k_is)
    (case z_sorted => k_is)
    (case z_str => k_is)
    (case z_tuple => k_is)
    all_goals exact none
#print axioms PySem.Challenge.cw_polywork_k16_shellings_judged_holds

